import PyProof.Rows.All
import Wide.All
import OpenK.AllK
import Wide.FinOn
import KE.KStateDown
import Lean
import HandS.ForMost
import HandS.ForExc
import HandS.Defaults
import HandS.ExcField
import HandS.ExcInit
import HandS.Head0
import HandS.Head1
import HandS.Head2
import HandS.EndBits
import HandS.HeadEnd
import HandS.HeadHook1
import HandS.HeadHook2
import HandS.Set
import HandS.Strs
import HandS.SetBool
import PyProof.Rows.SortShellAny
import HandS.TupSets
import KE.GoesMore
import HandS.TupAny
import HandS.SortInts
import HandS.Deep
import HandS.Wide
import HandS.IsInst
import HandS.Steps
import HandS.Flow
import HandS.TryMany
import HandS.Conv
import KE.KDictKeyed
import KE.KDictWalk
import HandS.Walk
import HandS.TupLen
import HandS.Records
import HandS.DictComp
import KE.KDictDisplayH
import HandS.SetKeys
import KE.SortData
import KE.KLam
import KE.SortKeyHeap
import KE.KSortKey
import PyProof.TupleIter
import HandS.Lambda
import HandS.SetFor
import HandS.TupMul
import HandS.CallSlots
import HandS.OwnEq
import PyProof.InstNe
import HandS.More
import HandS.MakeKw
import HandS.Style
import KE.KEqDict
import PyProof.NeKinds
import KE.KExcIs
import KE.KOpsOwn
import PyProof.StrReplace2
import HandS.HeadNt
import HandS.ClsMeth
import HandS.CallLocal
import HandS.DeepEq
import HandS.Zip
import KE.GoesEnum
import KE.KDictSum
import HandS.Sort
import HandS.EndTab
import PySem.Challenge.RW_surelydone_k15_deeds_asked
set_option linter.all false
set_option maxRecDepth 100000
set_option Elab.async false
set_option maxHeartbeats 0
namespace Sd
open PySem PySem.Spec PyProof.Rows L2
structure SaysE (fa : List He.Fa) (fn : List He.DefD) (ex : PySem.W.Frag → Bool) (K : PySem.W.Frag) : Prop where
  d : He.SaysD fa fn K
  x : ex K = true
end Sd
namespace Sd
open PySem L2
abbrev tl (a : Str) : List Nat := a.cps.toList
theorem tl_inj {a b : Str} (h : tl a = tl b) : a = b := by
  obtain ⟨⟨x⟩⟩ := a; obtain ⟨⟨y⟩⟩ := b
  simp only [tl] at h; subst h; rfl
def ltT (a b : Str) : Prop := tl a < tl b
instance (a b : Str) : Decidable (ltT a b) := inferInstanceAs (Decidable (tl a < tl b))
theorem ltT_irr (a : Str) : ¬ ltT a a := List.lt_irrefl (tl a)
theorem ltT_tr {a b c : Str} (h : ltT a b) (k : ltT b c) : ltT a c := List.lt_trans h k
theorem ltT_tot {a b : Str} (h : ¬ ltT a b) (n : a ≠ b) : ltT b a := by
  refine Decidable.byContradiction fun k => n (tl_inj ?_)
  exact List.le_antisymm (List.not_lt.mp k) (List.not_lt.mp h)
def insU (z : Str) : List Str → List Str
  | [] => [z]
  | x :: r => if z = x then x :: r else if ltT z x then z :: x :: r else x :: insU z r
def uniq : List Str → List Str
  | [] => []
  | z :: r => insU z (uniq r)
def Asc (l : List Str) : Prop := l.Pairwise ltT
theorem mem_insU {z y : Str} : ∀ {l : List Str}, y ∈ insU z l ↔ y = z ∨ y ∈ l
  | [] => by simp [insU]
  | x :: r => by
    unfold insU
    split
    · rename_i e; subst e; simp
    · split
      · simp
      · rw [List.mem_cons, mem_insU, List.mem_cons]
        constructor
        · rintro (h | h | h)
          · exact .inr (.inl h)
          · exact .inl h
          · exact .inr (.inr h)
        · rintro (h | h | h)
          · exact .inr (.inl h)
          · exact .inl h
          · exact .inr (.inr h)
theorem mem_uniq {y : Str} : ∀ {l : List Str}, y ∈ uniq l ↔ y ∈ l
  | [] => Iff.rfl
  | z :: r => by rw [uniq, mem_insU, mem_uniq, List.mem_cons]
theorem asc_insU {z : Str} : ∀ {l : List Str}, Asc l → Asc (insU z l)
  | [], _ => List.pairwise_singleton _ _
  | x :: r, h => by
    have h1 := List.pairwise_cons.mp h
    unfold insU
    split
    · exact h
    · rename_i ne
      split
      · rename_i lt
        refine List.pairwise_cons.mpr ⟨fun y hy => ?_, h⟩
        rcases List.mem_cons.mp hy with e | hy
        · rw [e]; exact lt
        · exact ltT_tr lt (h1.1 y hy)
      · rename_i nl
        refine List.pairwise_cons.mpr ⟨fun y hy => ?_, asc_insU h1.2⟩
        rcases mem_insU.mp hy with e | hy
        · rw [e]; exact ltT_tot nl ne
        · exact h1.1 y hy
theorem asc_uniq : ∀ l : List Str, Asc (uniq l)
  | [] => List.Pairwise.nil
  | z :: r => asc_insU (asc_uniq r)
theorem asc_ext : ∀ {l m : List Str}, Asc l → Asc m → (∀ y, y ∈ l ↔ y ∈ m) → l = m
  | [], [], _, _, _ => rfl
  | [], b :: m, _, _, h => absurd ((h b).mpr List.mem_cons_self) (by simp)
  | a :: l, [], _, _, h => absurd ((h a).mp List.mem_cons_self) (by simp)
  | a :: l, b :: m, hl, hm, h => by
    have l1 := List.pairwise_cons.mp hl
    have m1 := List.pairwise_cons.mp hm
    have e : a = b := by
      rcases List.mem_cons.mp ((h a).mp List.mem_cons_self) with e | e
      · exact e
      · rcases List.mem_cons.mp ((h b).mpr List.mem_cons_self) with f | f
        · exact f.symm
        · exact absurd (ltT_tr (l1.1 b f) (m1.1 a e)) (ltT_irr a)
    subst e
    refine congrArg (a :: ·) (asc_ext l1.2 m1.2 fun y => ⟨fun hy => ?_, fun hy => ?_⟩)
    · rcases List.mem_cons.mp ((h y).mp (List.mem_cons_of_mem _ hy)) with e | e
      · subst e; exact absurd (l1.1 y hy) (ltT_irr y)
      · exact e
    · rcases List.mem_cons.mp ((h y).mpr (List.mem_cons_of_mem _ hy)) with e | e
      · subst e; exact absurd (m1.1 y hy) (ltT_irr y)
      · exact e
theorem uniq_eq {l m : List Str} (hl : Asc l) (h : ∀ y, y ∈ l ↔ y ∈ m) : l = uniq m := asc_ext hl (asc_uniq m) fun y => (h y).trans mem_uniq.symm
theorem uniq_congr {l m : List Str} (h : ∀ y, y ∈ l ↔ y ∈ m) : uniq l = uniq m := uniq_eq (asc_uniq l) fun y => mem_uniq.trans (h y)
theorem insU_len (z : Str) : ∀ l : List Str, (insU z l).length ≤ l.length + 1
  | [] => Nat.le_refl _
  | x :: r => by
    unfold insU
    split
    · exact Nat.le_succ _
    · split
      · exact Nat.le_refl _
      · exact Nat.succ_le_succ (insU_len z r)
theorem uniq_len : ∀ l : List Str, (uniq l).length ≤ l.length
  | [] => Nat.le_refl _
  | z :: r => Nat.le_trans (insU_len z _) (Nat.succ_le_succ (uniq_len r))
theorem asc_nodup {l : List Str} (h : Asc l) : l.Nodup := by
  refine List.Pairwise.imp ?_ h
  intro a b k e
  subst e
  exact ltT_irr _ k
/-- the library's «sorted» of texts without repetitions rises -/
theorem rising_asc : ∀ (l : List Str) (p : Str), PyProof.Rows.risingS p l = true → (p :: l).Nodup → Asc (p :: l)
  | [], _, _, _ => List.pairwise_singleton _ _
  | x :: r, p, h, nd => by
    unfold PyProof.Rows.risingS at h
    have h1 := Bool.and_eq_true_iff.mp h
    have nd1 := List.nodup_cons.mp nd
    have ih := rising_asc r x h1.2 nd1.2
    have lt : ltT p x := by
      have q : ¬ ltT x p := by
        have z := h1.1
        rw [PyProof.Rows.ltCps_eq] at z
        simpa [ltT] using z
      exact ltT_tot q fun e => nd1.1 (e ▸ List.mem_cons_self)
    refine List.pairwise_cons.mpr ⟨fun y hy => ?_, ih⟩
    rcases List.mem_cons.mp hy with e | hy
    · rw [e]; exact lt
    · exact ltT_tr lt ((List.pairwise_cons.mp ih).1 y hy)
theorem sorted_asc {l : List Str} (h : PyProof.Rows.sortedS l = true) (nd : l.Nodup) : Asc l := by
  cases l with
  | nil => exact List.Pairwise.nil
  | cons p l => exact rising_asc l p h nd
end Sd
namespace Sd
open PySem PySem.Spec PyProof.Rows L2
def TxE (w : World) (e : Int × Value) (z : Str) : Prop := (∃ tk, e.2 = Value.str z tk) ∧ e.1 = hashStr w z
structure TxSet (w : World) (ks : List Str) (es : Array (Int × Value)) (t : SetTable) : Prop where
  els : ∃ zs, Paired (TxE w) es.toList zs ∧ zs.Perm ks
  nd : ks.Nodup
  bd : ks.length < scanBound
  ft : t.fits es.size = true
  ri : Ris t.place.toList
  ld : w.params.followText "set-order" = true ∨ t.led = true
def SetX (w : World) (h : Heap) (a : Addr) (ks : List Str) : Prop :=
  ∃ o es ep t, h.get? a = some o ∧ o.ExactSet ∧ o.data = .set es ep t ∧ TxSet w ks es t
section
variable {P : Program} {w : World} {ks : List Str} {es : Array (Int × Value)} {t : SetTable}
theorem paired_mem {α β : Type} {F : α → β → Prop} : ∀ {l : List α} {m : List β}, Paired F l m → ∀ a ∈ l, ∃ b ∈ m, F a b
  | _, _, .nil, _, h => by cases h
  | _, _, .cons r q, a, h => by
    rcases List.mem_cons.mp h with rfl | h
    · exact ⟨_, List.mem_cons_self, r⟩
    · obtain ⟨b, hb, f⟩ := paired_mem q a h
      exact ⟨b, List.mem_cons_of_mem _ hb, f⟩
theorem paired_mem' {α β : Type} {F : α → β → Prop} : ∀ {l : List α} {m : List β}, Paired F l m → ∀ b ∈ m, ∃ a ∈ l, F a b
  | _, _, .nil, _, h => by cases h
  | _, _, .cons r q, b, h => by
    rcases List.mem_cons.mp h with rfl | h
    · exact ⟨_, List.mem_cons_self, r⟩
    · obtain ⟨a, ha, f⟩ := paired_mem' q b h
      exact ⟨a, List.mem_cons_of_mem _ ha, f⟩
theorem paired_perm {α β : Type} {F : α → β → Prop} {l l' : List α} (p : l.Perm l') : ∀ {m : List β}, Paired F l m → ∃ m', Paired F l' m' ∧ m.Perm m' := by
  induction p with
  | nil => intro m h; exact ⟨m, h, .refl _⟩
  | cons x _ ih =>
    intro m h
    cases h with
    | cons r q =>
      obtain ⟨m', a, b⟩ := ih q
      exact ⟨_, .cons r a, b.cons _⟩
  | swap x y l =>
    intro m h
    cases h with
    | cons r q =>
      cases q with
      | cons r' q' => exact ⟨_, .cons r' (.cons r q'), .swap _ _ _⟩
  | trans _ _ ih1 ih2 =>
    intro m h
    obtain ⟨m1, a, b⟩ := ih1 h
    obtain ⟨m2, c, d⟩ := ih2 a
    exact ⟨m2, c, b.trans d⟩
theorem TxE.is {e : Int × Value} {z : Str} (h : TxE w e z) (y : Str) : (PySem.strKind P w).is y e.2 = decide (y = z) := by
  obtain ⟨⟨tk, q⟩, _⟩ := h
  rw [q]
  exact (PySem.strKind P w).is_eq_decide (strKind_is P w z tk) y
theorem TxSet.elems (x : TxSet w ks es t) : ElemsOf (PySem.strKind P w) es.toList := fun e he => by
  obtain ⟨zs, pz, _⟩ := x.els
  obtain ⟨z, _, ⟨tk, q⟩, hh⟩ := paired_mem pz e he
  exact ⟨⟨z, by rw [q]; exact strKind_is P w z tk, hh⟩, by rw [q]; rfl⟩
theorem TxSet.size (x : TxSet w ks es t) : es.size = ks.length := by
  obtain ⟨zs, pz, pk⟩ := x.els
  rw [← pk.length_eq, ← pz.length, Array.length_toList]
theorem TxSet.has (x : TxSet w ks es t) (y : Str) : (∃ e ∈ es.toList, (PySem.strKind P w).is y e.2 = true) ↔ y ∈ ks := by
  obtain ⟨zs, pz, pk⟩ := x.els
  constructor
  · rintro ⟨e, he, q⟩
    obtain ⟨z, hz, f⟩ := paired_mem pz e he
    rw [f.is, decide_eq_true_eq] at q
    rw [q]; exact pk.mem_iff.mp hz
  · intro hy
    obtain ⟨e, he, f⟩ := paired_mem' pz y (pk.mem_iff.mpr hy)
    exact ⟨e, he, by rw [f.is]; exact decide_eq_true rfl⟩
end
def addT (ks : List Str) (z : Str) : List Str := if z ∈ ks then ks else z :: ks
theorem mem_addT {ks : List Str} {z y : Str} : y ∈ addT ks z ↔ y = z ∨ y ∈ ks := by
  unfold addT
  split
  · rename_i h
    exact ⟨.inr, fun q => q.elim (fun e => e ▸ h) id⟩
  · exact List.mem_cons
theorem nd_addT {ks : List Str} {z : Str} (h : ks.Nodup) : (addT ks z).Nodup := by
  unfold addT
  split
  · exact h
  · rename_i n
    exact List.nodup_cons.mpr ⟨n, h⟩
theorem len_addT (ks : List Str) (z : Str) : (addT ks z).length ≤ ks.length + 1 := by
  unfold addT
  split
  · exact Nat.le_succ _
  · exact Nat.le_refl _
section
variable {P : Program} {w : World} {A : Around} {E : Value → Shared → Prop} {s : Shared} {a : Addr} {ks : List Str}
theorem SetX.at {h h' : Heap} (R : SetX w h a ks) (k : ∀ o, h.get? a = some o → h'.get? a = some o) : SetX w h' a ks := by
  obtain ⟨o, es, ep, t, ho, r⟩ := R
  exact ⟨o, es, ep, t, k o ho, r⟩
theorem SetX.fresh {h : Heap} (w : World) : SetX w (h.push { cls := .type "set", dict := none, data := .set #[] 0 (.fresh 0 0 (!w.params.followText "set-order")) }) h.objs.size [] := by
  refine ⟨_, #[], 0, _, Heap.get?_push_size _ rfl, ⟨rfl, rfl, rfl⟩, rfl, ⟨[], .nil, .refl _⟩, List.nodup_nil, by decide, by rfl, List.Pairwise.nil, ?_⟩
  by_cases q : w.params.followText "set-order" = true
  · exact .inl q
  · refine .inr ?_
    show (!w.params.followText "set-order") = true
    rw [Bool.not_eq_true] at q
    rw [q]; rfl
/-- the entries are stored, and laid anew if there are too many -/
theorem tx_store {gv : Bool → Sem Unit} (hg : ∀ (b : Bool) (s₁ : Shared) (Q' : Unit → Shared → Prop), Q' () s₁ → wpAny (model P w) A (gv b) Q' E s₁)
    {o : Obj} {es : Array (Int × Value)} {ep : Nat} {t : SetTable} (ho : s.heap.get? a = some o) (hx : o.ExactSet) (hd : o.data = .set es ep t)
    {es1 : Array (Int × Value)} {t2 : SetTable} {ks1 : List Str} (T : TxSet w ks1 es1 t2) {wasD : Bool} {R : Option Bool → Shared → Prop}
    (hR : ∀ h', Heap.SameBut a s.heap h' → SetX w h' a ks1 → R (some true) { s with heap := h' }) :
    wpAny (model P w) A (do
        storeSet a es1 t2
        if (!wasD && t2.tooFull) = true then do
            gv (relayAll t2 es1 (SetTable.grown es1.size)).2.2
            storeSet a (relayAll t2 es1 (SetTable.grown es1.size)).1 (relayAll t2 es1 (SetTable.grown es1.size)).2.1
            pure (some true)
          else pure (some true)) R E s := by
  have bd1 : es1.size < scanBound := by rw [T.size]; exact T.bd
  refine wpAny_bind (wpAny_storeSet_of ho hd ?_ (fits_of_scanBound bd1))
  have o1 := store_at (es' := es1) (t' := t2) ho hd
  have u1 := Heap.SameBut.update s.heap a (Obj.putSet es1 t2)
  split
  · have hp := relayAll_perm t2 es1 (SetTable.grown es1.size)
    have hf := relayAll_fits t2 es1 (SetTable.grown es1.size)
    have hr := relayAll_ris t2 es1 (SetTable.grown es1.size)
    have hl := relayAll_led t2 es1 (SetTable.grown es1.size)
    generalize relayAll t2 es1 (SetTable.grown es1.size) = Z at hp hf hr hl ⊢
    obtain ⟨es2, t3, gave⟩ := Z
    dsimp only at hp hf hr hl ⊢
    have z2 : es2.size = es1.size := by
      rw [← Array.length_toList, hp.length_eq, Array.length_toList]
    refine wpAny_bind (hg _ _ _ ?_)
    refine wpAny_bind (wpAny_storeSet_of o1 rfl ?_ (fits_of_scanBound (by rw [z2]; exact bd1)))
    have o2 := store_at (es' := es2) (t' := t3) o1 rfl
    refine wpAny_pure (hR _ (u1.trans (Heap.SameBut.update _ a _)) ⟨_, es2, _, t3, o2, hx, rfl, ?_⟩)
    obtain ⟨zs, pz, pk⟩ := T.els
    obtain ⟨zs', pz', pk'⟩ := paired_perm hp.symm pz
    exact ⟨⟨zs', pz', pk'.symm.trans pk⟩, T.nd, T.bd, hf, hr, T.ld.imp id fun q => by rw [hl]; exact q⟩
  · exact wpAny_pure (hR _ u1 ⟨_, es1, _, t2, o1, hx, rfl, T⟩)
theorem tx_addHashed {z : Str} {tk : Tok} {Q : Bool → Shared → Prop} (R : SetX w s.heap a ks) (room : ks.length + 1 < scanBound)
    (hQ : ∀ h' b, Heap.SameBut a s.heap h' → SetX w h' a (addT ks z) → Q b { s with heap := h' }) :
    wpAny (model P w) A (setAddHashed a (.str z tk) ((PySem.strKind P w).hash z)) Q E s := by
  obtain ⟨o, es, ep, t, ho, hx, hd, T⟩ := R
  have hk : (PySem.strKind P w).is z (.str z tk) = true := strKind_is P w z tk
  have hsc : (Value.str z tk).scannable = true := rfl
  have hel : ElemsOf (PySem.strKind P w) es.toList := T.elems
  have hbd : es.size < scanBound := by rw [T.size]; exact T.bd
  unfold setAddHashed setAddHashedIn
  refine wpAny_holding (wpAny_bind (wpAny_setState_of ho hd T.ft ?_))
  dsimp only
  rw [byScan_of hsc hbd hel]
  simp only [↓reduceIte]
  unfold setAddByScan
  refine wpAny_bind ?_
  refine wpAny_bind (wpAny_rule ?_)
  refine wpAny_bind (wpAny_setScan_of hk ho hd T.ft hel ?_)
  cases hfi : List.findIdx? (fun e => (PySem.strKind P w).is z e.2) es.toList with
  | some j =>
    dsimp only
    obtain ⟨hj, pj, _⟩ := List.findIdx?_eq_some_iff_getElem.mp hfi
    have hin : z ∈ ks := (T.has (P := P) z).mp ⟨es.toList[j], List.getElem_mem hj, pj⟩
    refine wpAny_pure (wpAny_pure (hQ s.heap _ (Heap.SameBut.refl a s.heap) ?_))
    have e : addT ks z = ks := if_pos hin
    rw [e]
    exact ⟨o, es, ep, t, ho, hx, hd, T⟩
  | none =>
    dsimp only
    have hnot : z ∉ ks := fun q => by
      obtain ⟨e, he, f⟩ := (T.has (P := P) z).mpr q
      have c := List.findIdx?_eq_none_iff.mp hfi e he
      rw [f] at c
      cases c
    have egv : ∀ (b : Bool) {s₁ : Shared} {Q' : Unit → Shared → Prop}, Q' () s₁ → wpAny (model P w) A (match b with | true => rule "set.scan.the-table-gave-way" | false => pure ()) Q' E s₁ := by
      intro b s₁ Q' q
      cases b
      · exact wpAny_pure q
      · exact wpAny_rule q
    have hp := layNew_perm t es ((PySem.strKind P w).hash z) (.str z tk)
    have hf := layNew_fits t es ((PySem.strKind P w).hash z) (.str z tk)
    have hr := layNew_ris t es ((PySem.strKind P w).hash z) (.str z tk) T.ri
    have hl := layNew_led t es ((PySem.strKind P w).hash z) (.str z tk)
    generalize layNew t es ((PySem.strKind P w).hash z) (.str z tk) = Z at hp hf hr hl ⊢
    obtain ⟨es1, t1, wasD, gave⟩ := Z
    dsimp only at hp hf hr hl ⊢
    rw [Array.toList_push] at hp
    have hc : es1.toList.Perm (((PySem.strKind P w).hash z, Value.str z tk) :: es.toList) := hp.trans (List.perm_append_singleton _ _)
    have e1 : addT ks z = z :: ks := if_neg hnot
    have mk : ∀ t2 : SetTable, t2.fits es1.size = true → Ris t2.place.toList → t2.led = t1.led → TxSet w (addT ks z) es1 t2 := fun t2 f2 r2 l2 => by
      obtain ⟨zs, pz, pk⟩ := T.els
      obtain ⟨zs', pz', pk'⟩ := paired_perm hc.symm (Paired.cons (F := TxE w) ⟨⟨tk, rfl⟩, rfl⟩ pz)
      refine ⟨⟨zs', pz', ?_⟩, nd_addT T.nd, Nat.lt_of_le_of_lt (len_addT ks z) room, f2, r2, ?_⟩
      · rw [e1]; exact pk'.symm.trans (pk.cons z)
      · rw [l2, hl]; exact T.ld
    refine wpAny_bind (egv _ ?_)
    split
    · refine wpAny_bind ?_
      rw [hashByValue_scannable 8 hsc]
      refine wpAny_pure ?_
      refine tx_store (ks1 := addT ks z) ?_ ho hx hd (mk _ ?_ ?_ ?_) ?_
      · intro b s₁ Q' q
        cases b
        · exact wpAny_pure q
        · exact wpAny_rule q
      · first | (split <;> first | exact hf | exact SetTable.fits_plain_off hf) | exact hf
      · first | (split <;> exact hr) | exact hr
      · first | (split <;> rfl) | rfl
      · intro h' sb r; dsimp only; exact wpAny_pure (hQ h' _ sb r)
    · refine wpAny_bind (wpAny_pure ?_)
      simp only [↓reduceIte]
      refine tx_store (ks1 := addT ks z) ?_ ho hx hd (mk _ hf hr rfl) ?_
      · intro b s₁ Q' q
        cases b
        · exact wpAny_pure q
        · exact wpAny_rule q
      · intro h' sb r; dsimp only; exact wpAny_pure (hQ h' _ sb r)
/-- one more member -/
theorem tx_add {z : Str} {tk : Tok} {Q : Bool → Shared → Prop} (R : SetX w s.heap a ks) (room : ks.length + 1 < scanBound)
    (hQ : ∀ h' b, Heap.SameBut a s.heap h' → SetX w h' a (addT ks z) → Q b { s with heap := h', toks := s.toks + 1 }) :
    wpAny (model P w) A (setAdd a (.str z tk)) Q E s := by
  unfold setAdd
  refine wpAny_holding (wpAny_bind ((PySem.strKind P w).pyHash (strKind_is P w z tk) ?_))
  exact tx_addHashed (s := { s with toks := s.toks + 1 }) R room fun h' b sb r => hQ h' b sb r
end
end Sd
namespace Sd
open PySem PySem.Spec PyProof.Rows L2
section
variable {P : Program} {w : World} {A : Around} {E : Value → Shared → Prop} {s : Shared} {a : Addr} {ks : List Str}
theorem strsAre_paired {w : World} : ∀ {l : List (Int × Value)} {zs : List Str}, Paired (TxE w) l zs → StrsAre (l.map (·.2)) zs
  | _, _, .nil => .nil
  | _, _, .cons ⟨⟨tk, q⟩, _⟩ r => by
    rw [List.map_cons, q]
    exact .cons _ _ (strsAre_paired r)
theorem strsAre_perm {vs vs' : List Value} (p : vs.Perm vs') : ∀ {zs : List Str}, StrsAre vs zs → ∃ zs', StrsAre vs' zs' ∧ zs.Perm zs' := by
  induction p with
  | nil => intro zs h; exact ⟨zs, h, .refl _⟩
  | cons x _ ih =>
    intro zs h
    cases h with
    | cons z u q =>
      obtain ⟨m', c, d⟩ := ih q
      exact ⟨_, .cons z u c, d.cons _⟩
  | swap x y l =>
    intro zs h
    cases h with
    | cons z u q =>
      cases q with
      | cons z' u' q' => exact ⟨_, .cons z' u' (.cons z u q'), .swap _ _ _⟩
  | trans _ _ ih1 ih2 =>
    intro zs h
    obtain ⟨m1, c, d⟩ := ih1 h
    obtain ⟨m2, c', d'⟩ := ih2 c
    exact ⟨m2, c', d.trans d'⟩
/-- sorted(a set of texts) -/
theorem tx_sorted {Q : Value → Shared → Prop} (R : SetX w s.heap a ks) (hh : A.handled = none)
    (hQ : ∀ s' p (out : Array Value) (c : Nat) (zs : List Str), (∀ b o, s.heap.get? b = some o → s'.heap.get? b = some o) → s'.gens = s.gens → s'.os = s.os → s.heap.objs.size ≤ p →
      s'.heap.get? p = some (seqObj "list" out c) → StrsAre out.toList zs → zs = uniq ks → Q (.ref p) s') :
    wpAny (model P w) A (call (.builtin "sorted") [.ref a]) Q E s := by
  obtain ⟨o, es, ep, t, ho, hx, hd, T⟩ := R
  have hb : es.size < scanBound := by rw [T.size]; exact T.bd
  refine Calls.call_function_entry kind_sorted plain_sorted entry_sorted (args_sorted1 _) ?_
  unfold Builtin.«sorted»
  refine wpAny_bind (m := checkCount "sorted" 1 1 _) (wpAny_pure ?_)
  refine wpAny_bind (collect_set (A := A.in1) hh ⟨o, ho, hx.1, hd⟩ T.ft hb T.ri T.ld fun s1 vs k1 hz g1 o1 pm => ?_)
  obtain ⟨zs, pz, pk⟩ := T.els
  obtain ⟨ys, hy, py⟩ := strsAre_perm pm.symm (strsAre_paired pz)
  have hlen : vs.length = ks.length := by
    rw [pm.length_eq, List.length_map, Array.length_toList, T.size]
  have hsz : vs.length ≤ sizeLine := by
    have := T.bd
    rw [hlen, sizeLine_eq]; unfold scanBound at this; omega
  refine wpAny_bind (wpAny_newList ?_ hsz)
  have hoL : (s1.heap.push (seqObj "list" vs.toArray 0)).get? s1.heap.objs.size = some (seqObj "list" vs.toArray 0) := Heap.get?_push_size _ rfl
  refine wpAny_bind (wpAny_holding (wpAny_call_entry slot_list_sort ⟨_, hoL, rfl⟩ entry_list_sort
    (list_sort_treeKAny strKind_oneLt hoL hy.keysOf (fun v₁ v₂ rest e => keyKind_strs (by rw [← e]; exact hy)) hsz fun st' hp hs => ⟨_, rfl, ?_⟩) (args_list_sort _)))
  obtain ⟨zs', h1, h2, h3⟩ := sorted_out_str hy hp hs
  obtain ⟨c, hc⟩ := sortedHeap_at (vs := vs) (out := (arrOf st').map (·.2)) hoL
  have pall : zs'.Perm ks := h2.trans (py.symm.trans pk)
  refine wpAny_pure ⟨_, rfl, hQ _ s1.heap.objs.size _ c zs' (fun b u e => ?_) g1 o1 hz hc h1 (uniq_eq (sorted_asc h3 (pall.nodup_iff.mpr T.nd)) fun y => pall.mem_iff)⟩
  have q := k1 b u e
  have hlt := Heap.lt_size q
  show (sortedHeap (s1.heap.push (seqObj "list" vs.toArray 0)) s1.heap.objs.size vs ((arrOf st').map (·.2))).get? b = some u
  rw [sortedHeap_old (Nat.ne_of_lt hlt) (by rw [size_push']; exact Nat.lt_succ_of_lt hlt)]
  exact Heap.get?_push_of_some _ q
end
def allT (xs : List Str) : List Str := xs.foldl addT []
theorem allT_snoc (xs : List Str) (z : Str) : allT (xs ++ [z]) = addT (allT xs) z := by
  unfold allT
  rw [List.foldl_append]
  rfl
theorem mem_foldT {y : Str} : ∀ (xs acc : List Str), y ∈ xs.foldl addT acc ↔ y ∈ acc ∨ y ∈ xs
  | [], acc => by simp
  | x :: r, acc => by
    rw [List.foldl_cons, mem_foldT r (addT acc x), mem_addT, List.mem_cons]
    constructor
    · rintro ((h | h) | h)
      · exact .inr (.inl h)
      · exact .inl h
      · exact .inr (.inr h)
    · rintro (h | h | h)
      · exact .inl (.inr h)
      · exact .inl (.inl h)
      · exact .inr h
theorem mem_allT {y : Str} {xs : List Str} : y ∈ allT xs ↔ y ∈ xs := by
  rw [allT, mem_foldT]
  simp
theorem len_foldT : ∀ (xs acc : List Str), (xs.foldl addT acc).length ≤ acc.length + xs.length
  | [], acc => Nat.le_refl _
  | x :: r, acc => by
    have h := len_foldT r (addT acc x)
    have k := len_addT acc x
    rw [List.foldl_cons, List.length_cons]
    omega
theorem len_allT (xs : List Str) : (allT xs).length ≤ xs.length := by
  have := len_foldT xs []
  simpa [allT] using this
theorem uniq_allT (xs : List Str) : uniq (allT xs) = uniq xs := uniq_congr fun _ => mem_allT
section
variable {P : Program} {w : World} {A : Around} {R : Result → Shared → Prop} {I : Addr} {fp wr : List Addr} {G : Array GenState → Array GenState → Prop} {n : Nat} {Pv : Nat → Value → Prop} {St : Nat → Shared → Prop}
theorem tx_loop (W : WalksS P w A.in1 I fp wr G n Pv St) (S : Addr) (hSf : S ∉ fp) (xs : List Str) (hsz : xs.length = n) (hfew : n + 1 < scanBound)
    (hval : ∀ i v, Pv i v → ∃ t, v = .str (xs.getD i Str.empty) t) :
    ∀ (k i : Nat) (s : Shared), n - i = k → i ≤ n → St i s → SetX w s.heap S (allT (xs.take i)) →
      (∀ s', Moved (S :: wr) G s s' → SetX w s'.heap S (allT xs) → R (.ok (.ret .none)) s') →
      codeAny (model P w) A (.builtin "set.update.loop" ⟨[.ref S, .ref I], []⟩) R s := by
  have hSw : S ∉ wr := fun h => hSf (W.sub _ h)
  have sub : ∀ b ∈ wr, b ∈ S :: wr := fun b hb => List.mem_cons_of_mem _ hb
  intro k
  induction k with
  | zero =>
    intro i s hk hi hst hS hR
    have e : i = n := by omega
    subst e
    rw [← hsz, List.take_length] at hS
    refine codeAny_builtin PyProof.Rows.F.entry_set_update_loop ?_
    rw [Around.under_plainId PyProof.Rows.F.plain_set_update_loop _]
    show wpAny _ A.in1 (pyNext (.ref I) >>= _) _ _ s
    refine wpAny_bind (W.done s _ _ hst fun s' hm => ?_)
    show wpAny _ A.in1 (ret Value.none) _ _ s'
    exact wpAny_pure (hR s' (hm.mono sub) (hS.at fun o q => hm.heap S o hSw q))
  | succ k ih =>
    intro i s hk hi hst hS hR
    have hlt : i < n := by omega
    refine codeAny_builtin PyProof.Rows.F.entry_set_update_loop ?_
    rw [Around.under_plainId PyProof.Rows.F.plain_set_update_loop _]
    show wpAny _ A.in1 (pyNext (.ref I) >>= _) _ _ s
    refine wpAny_bind (W.item i s _ _ hlt hst fun v s' hP hst' hm => ?_)
    obtain ⟨t, rfl⟩ := hval i v hP
    have hS' : SetX w s'.heap S (allT (xs.take i)) := hS.at fun o q => hm.heap S o hSw q
    show wpAny _ A.in1 (holding [Value.str (xs.getD i Str.empty) t] (setAdd S (.str (xs.getD i Str.empty) t)) >>= _) _ _ s'
    have room : (allT (xs.take i)).length + 1 < scanBound := by
      have h1 := len_allT (xs.take i)
      rw [List.length_take] at h1
      omega
    refine wpAny_bind (wpAny_holding (tx_add hS' room fun h' b hsb hS2 => ?_))
    have hSi : SetX w h' S (allT (xs.take (i + 1))) := by
      have hx : xs[i]? = some (xs.getD i Str.empty) := by
        rw [List.getD_eq_getElem?_getD, List.getElem?_eq_getElem (by omega)]; rfl
      rw [List.take_add_one, hx, Option.toList_some, allT_snoc]
      exact hS2
    refine wpAny_pure ⟨plainId_quiet PyProof.Rows.F.plain_set_update_loop _, ih (i + 1) _ (by omega) hlt (W.frame _ s' _ _ hst' (Nat.le_succ _) fun b hb o e => ?_) hSi fun s'' hm'' hS'' => ?_⟩
    · rw [hsb.2 b (fun h : b = S => hSf (by rw [← h]; exact hb))]
      exact e
    · refine hR s'' (Moved.trans W.gtrans ((hm.mono sub).then_heap (Nat.le_succ _) fun b o hb e => ?_) hm'') hS''
      rw [hsb.2 b (fun h : b = S => hb (by rw [h]; exact List.mem_cons_self))]
      exact e
end
end Sd
namespace Sd
open PySem PySem.Spec PyProof.Rows L2
abbrev newS (w : World) : Obj := { cls := .type "set", dict := none, data := .set #[] 0 (.fresh 0 0 (!w.params.followText "set-order")) }
theorem strsAt : ∀ {us : List Value} {xs : List Str}, StrsAre us xs → ∀ (i : Nat) (v : Value), us[i]? = some v → ∃ t, v = .str (xs.getD i Str.empty) t
  | _, _, .nil, _, _, h => by simp at h
  | _, _, .cons y t r, 0, v, h => by
    simp only [List.getElem?_cons_zero, Option.some.injEq] at h
    exact ⟨t, h.symm⟩
  | _, _, .cons y t r, i + 1, v, h => by
    simp only [List.getElem?_cons_succ] at h
    obtain ⟨u, e⟩ := strsAt r i v h
    exact ⟨u, by rw [e]; rfl⟩
section
variable {P : Program} {w : World} {A : Around} {E : Value → Shared → Prop} {s : Shared}
theorem tx_set_list {l : Addr} {items : Array Value} {xs : List Str} {Q : Value → Shared → Prop} (hh : A.handled = none) (hl : s.heap.IsList l items) (hi : StrsAre items.toList xs) (hfew : xs.length + 1 < scanBound)
    (hQ : ∀ (h' : Heap) (tk : Nat), SetX w h' s.heap.objs.size (allT xs) → (∀ b o, s.heap.get? b = some o → h'.get? b = some o) → Q (.ref s.heap.objs.size) { s with heap := h', toks := tk }) :
    wpAny (model P w) A (call (.type "set") [.ref l]) Q E s := by
  obtain ⟨cmro, tlmro, hmro⟩ := PySem.F.called_set.mro
  have hmade := PySem.F.called_set.made
  have hsubt := PySem.F.called_set.sub
  refine wpAny_call (codeAny_of_tree ?_)
  show wpAny _ _ (callAny (.type "set") _) _ _ _
  refine wpAny_pure ⟨Code.quiet_builtin _ (by decide +kernel), codeAny_builtin PySem.F.entry_type_call ?_⟩
  rw [Around.under_plain (weight_type_call_type "set" [.ref l] []) rfl]
  have c1 := PySem.F.called_set.notType
  have c2 := PySem.F.called_set.canCreate
  have c3 := PySem.F.typeCall_set_1 (.ref l)
  repeat (any_goals (first | assumption | wp_step))
  refine codeAny_mono (code_set_led1 (.ref l) (E := E) (Q₁ := fun ob s₁ => ob = .ref s.heap.objs.size ∧ s₁ = { s with heap := s.heap.push (newS w) }) ⟨rfl, rfl⟩) fun r s₁ hr => ?_
  cases r with
  | error e => exact hr
  | ok fl =>
    cases fl with
    | ret ob =>
      obtain ⟨rfl, rfl⟩ := hr
      have hS : (s.heap.push (newS w)).get? s.heap.objs.size = some (newS w) := Heap.get?_push_size _ rfl
      have hT : Shared.TypeIs { s with heap := s.heap.push (newS w) } (.ref s.heap.objs.size) "set" := ⟨_, hS, rfl⟩
      have hli := PySem.F.called_set.init.lookup
      have hbi := PySem.F.called_set.init.bind (.ref s.heap.objs.size)
      repeat (any_goals (first | assumption | wp_step))
      refine codeAny_mono (codeAny_call_builtin (R := wants (fun r s₂ => r = .none ∧ ∃ h' tk, s₂ = { s with heap := h', toks := tk } ∧ SetX w h' s.heap.objs.size (allT xs) ∧
          (∀ b o, s.heap.get? b = some o → h'.get? b = some o)) E) PySem.F.called_set.init.plain PySem.F.entry_set_init (check_set_init_1 hT ?_)) fun r₂ s₂ hr₂ => ?_
      · obtain ⟨ol, hol, hcl, nl, hdl⟩ := hl
        obtain ⟨ocl, odi, oda, osl⟩ := ol
        simp only at hcl hdl
        subst hcl; subst hdl
        have hol2 : (s.heap.push (newS w)).get? l = some { cls := .type "list", dict := odi, data := .seq items nl, slots := osl } := Heap.get?_push_of_some _ hol
        have n1 := PySem.F.sub_list_set
        have n2 := PySem.F.sub_list_frozenset
        have n3 : (Value.type "list" == Value.type "dict") = false := by decide
        have hl1 : (s.heap.push (newS w)).IsList l items := ⟨_, hol2, rfl, nl, rfl⟩
        unfold Builtin.«set.__init__» noKeywords Builtin.Frozenset.updateFrom
        generalize hPI : pyIter = PI
        wp_walk
        subst hPI
        refine wpAny_pyIter_list hl1 ?_
        refine wpAny_bind (wpAny_runValue ?_)
        have hlS : l < s.heap.objs.size := Heap.lt_size hol
        have hh3 : A.in1.in1.in1.handled = none := by simp [hh]
        have hneI : l ≠ (s.heap.push (newS w)).objs.size := by
          rw [Heap.size_push]
          exact Nat.ne_of_lt (Nat.lt_succ_of_lt hlS)
        have hSf : s.heap.objs.size ∉ [(s.heap.push (newS w)).objs.size, l] := by
          rw [Heap.size_push]
          simp only [List.mem_cons, List.mem_singleton, List.not_mem_nil, or_false, not_or]
          exact ⟨Nat.ne_of_lt (Nat.lt_succ_self _), Nat.ne_of_gt hlS⟩
        have hsz : xs.length = items.size := by
          rw [← StrsAre.len_eq hi, Array.length_toList]
        have hval : ∀ (i : Nat) (v : Value), items[i]? = some v → ∃ t, v = .str (xs.getD i Str.empty) t := fun i v hv => strsAt hi i v (by rw [Array.getElem?_toList]; exact hv)
        refine tx_loop ((Walks.list hh3 _ l hneI items).toS) s.heap.objs.size hSf xs hsz (by rw [← hsz]; exact hfew) hval (items.size - 0) 0 _ (by omega) (Nat.zero_le _)
          ⟨⟨_, Heap.get?_push_size _ rfl, rfl, rfl⟩, (hl1.push _)⟩ ?hS0 ?hR
        case hS0 => exact (SetX.fresh w).at fun o e => Heap.get?_push_of_some _ e
        case hR =>
          intro s' hm hS'
          obtain ⟨h', g', d', tk', os'⟩ := s'
          obtain rfl : g' = s.gens := hm.gens
          obtain rfl : d' = s.drawn := hm.drawn
          obtain rfl : os' = s.os := hm.os
          show wpAny _ _ _ _ _ _
          refine wpAny_pure ?_
          show wpAny _ _ (ret Value.none) _ _ _
          refine wpAny_pure ⟨rfl, h', tk', rfl, hS', fun b o e => ?_⟩
          have hb := Heap.lt_size e
          refine hm.heap b o ?_ (Heap.get?_push_of_some _ (Heap.get?_push_of_some _ e))
          rw [Heap.size_push]
          simp only [List.mem_cons, List.mem_singleton, List.not_mem_nil, or_false, not_or]
          exact ⟨Nat.ne_of_lt hb, Nat.ne_of_lt (Nat.lt_succ_of_lt hb)⟩
      · cases r₂ with
        | error e => exact hr₂
        | ok fl₂ =>
          cases fl₂ with
          | ret r =>
            obtain ⟨rfl, h', tk, rfl, hS', hk'⟩ := hr₂
            repeat (any_goals (first | assumption | wp_step))
            exact hQ _ _ hS' hk'
          | _ => exact hr₂.elim
    | _ => exact hr.elim
theorem tx_set_tuple {l : Addr} {items : Array Value} {xs : List Str} {Q : Value → Shared → Prop} (hh : A.handled = none) (hl : s.heap.IsTuple l items) (hi : StrsAre items.toList xs) (hfew : xs.length + 1 < scanBound)
    (hQ : ∀ (h' : Heap) (tk : Nat), SetX w h' s.heap.objs.size (allT xs) → (∀ b o, s.heap.get? b = some o → h'.get? b = some o) → Q (.ref s.heap.objs.size) { s with heap := h', toks := tk }) :
    wpAny (model P w) A (call (.type "set") [.ref l]) Q E s := by
  obtain ⟨cmro, tlmro, hmro⟩ := PySem.F.called_set.mro
  have hmade := PySem.F.called_set.made
  have hsubt := PySem.F.called_set.sub
  refine wpAny_call (codeAny_of_tree ?_)
  show wpAny _ _ (callAny (.type "set") _) _ _ _
  refine wpAny_pure ⟨Code.quiet_builtin _ (by decide +kernel), codeAny_builtin PySem.F.entry_type_call ?_⟩
  rw [Around.under_plain (weight_type_call_type "set" [.ref l] []) rfl]
  have c1 := PySem.F.called_set.notType
  have c2 := PySem.F.called_set.canCreate
  have c3 := PySem.F.typeCall_set_1 (.ref l)
  repeat (any_goals (first | assumption | wp_step))
  refine codeAny_mono (code_set_led1 (.ref l) (E := E) (Q₁ := fun ob s₁ => ob = .ref s.heap.objs.size ∧ s₁ = { s with heap := s.heap.push (newS w) }) ⟨rfl, rfl⟩) fun r s₁ hr => ?_
  cases r with
  | error e => exact hr
  | ok fl =>
    cases fl with
    | ret ob =>
      obtain ⟨rfl, rfl⟩ := hr
      have hS : (s.heap.push (newS w)).get? s.heap.objs.size = some (newS w) := Heap.get?_push_size _ rfl
      have hT : Shared.TypeIs { s with heap := s.heap.push (newS w) } (.ref s.heap.objs.size) "set" := ⟨_, hS, rfl⟩
      have hli := PySem.F.called_set.init.lookup
      have hbi := PySem.F.called_set.init.bind (.ref s.heap.objs.size)
      repeat (any_goals (first | assumption | wp_step))
      refine codeAny_mono (codeAny_call_builtin (R := wants (fun r s₂ => r = .none ∧ ∃ h' tk, s₂ = { s with heap := h', toks := tk } ∧ SetX w h' s.heap.objs.size (allT xs) ∧
          (∀ b o, s.heap.get? b = some o → h'.get? b = some o)) E) PySem.F.called_set.init.plain PySem.F.entry_set_init (check_set_init_1 hT ?_)) fun r₂ s₂ hr₂ => ?_
      · obtain ⟨ol, hol, hcl, nl, hdl⟩ := hl
        obtain ⟨ocl, odi, oda, osl⟩ := ol
        simp only at hcl hdl
        subst hcl; subst hdl
        have hol2 : (s.heap.push (newS w)).get? l = some { cls := .type "tuple", dict := odi, data := .seq items nl, slots := osl } := Heap.get?_push_of_some _ hol
        have n1 := PySem.F.sub_tuple_set
        have n2 := PySem.F.sub_tuple_frozenset
        have n3 : (Value.type "tuple" == Value.type "dict") = false := by decide
        have hl1 : (s.heap.push (newS w)).IsTuple l items := ⟨_, hol2, rfl, nl, rfl⟩
        unfold Builtin.«set.__init__» noKeywords Builtin.Frozenset.updateFrom
        generalize hPI : pyIter = PI
        wp_walk
        subst hPI
        refine wpAny_pyIter_tuple hl1 ?_
        refine wpAny_bind (wpAny_runValue ?_)
        have hlS : l < s.heap.objs.size := Heap.lt_size hol
        have hh3 : A.in1.in1.in1.handled = none := by simp [hh]
        have hneI : l ≠ (s.heap.push (newS w)).objs.size := by
          rw [Heap.size_push]
          exact Nat.ne_of_lt (Nat.lt_succ_of_lt hlS)
        have hSf : s.heap.objs.size ∉ [(s.heap.push (newS w)).objs.size, l] := by
          rw [Heap.size_push]
          simp only [List.mem_cons, List.mem_singleton, List.not_mem_nil, or_false, not_or]
          exact ⟨Nat.ne_of_lt (Nat.lt_succ_self _), Nat.ne_of_gt hlS⟩
        have hsz : xs.length = items.size := by
          rw [← StrsAre.len_eq hi, Array.length_toList]
        have hval : ∀ (i : Nat) (v : Value), items[i]? = some v → ∃ t, v = .str (xs.getD i Str.empty) t := fun i v hv => strsAt hi i v (by rw [Array.getElem?_toList]; exact hv)
        refine tx_loop ((Walks.tuple hh3 _ l hneI items).toS) s.heap.objs.size hSf xs hsz (by rw [← hsz]; exact hfew) hval (items.size - 0) 0 _ (by omega) (Nat.zero_le _)
          ⟨⟨_, Heap.get?_push_size _ rfl, rfl, rfl⟩, (hl1.push _)⟩ ?hS0 ?hR
        case hS0 => exact (SetX.fresh w).at fun o e => Heap.get?_push_of_some _ e
        case hR =>
          intro s' hm hS'
          obtain ⟨h', g', d', tk', os'⟩ := s'
          obtain rfl : g' = s.gens := hm.gens
          obtain rfl : d' = s.drawn := hm.drawn
          obtain rfl : os' = s.os := hm.os
          show wpAny _ _ _ _ _ _
          refine wpAny_pure ?_
          show wpAny _ _ (ret Value.none) _ _ _
          refine wpAny_pure ⟨rfl, h', tk', rfl, hS', fun b o e => ?_⟩
          have hb := Heap.lt_size e
          refine hm.heap b o ?_ (Heap.get?_push_of_some _ (Heap.get?_push_of_some _ e))
          rw [Heap.size_push]
          simp only [List.mem_cons, List.mem_singleton, List.not_mem_nil, or_false, not_or]
          exact ⟨Nat.ne_of_lt hb, Nat.ne_of_lt (Nat.lt_succ_of_lt hb)⟩
      · cases r₂ with
        | error e => exact hr₂
        | ok fl₂ =>
          cases fl₂ with
          | ret r =>
            obtain ⟨rfl, h', tk, rfl, hS', hk'⟩ := hr₂
            repeat (any_goals (first | assumption | wp_step))
            exact hQ _ _ hS' hk'
          | _ => exact hr₂.elim
    | _ => exact hr.elim
end
end Sd
namespace Sd
open PySem PySem.Spec PyProof.Rows L2
def TxO (w : World) (a : Addr) (ks : List Str) : HO := .ext fun h => SetX w h a ks
section
variable {X : Cx} {pins : List (Addr × Obj)} {σ : L2.St} {H : Hp} {s : Shared}
theorem txo_ok {P : Program} {w : World} {h : Heap} {a : Addr} {ks : List Str} (R : SetX w h a ks) : ObjOk P w H h a (TxO w a ks) := by
  have ⟨o, _, _, _, ho, _⟩ := R
  exact ⟨R, ⟨o, ho⟩, fun h1 h2 r k => r.at k⟩
theorem txo_get {a : Addr} {ks : List Str} (I : Inv X pins σ H s) (ha : H a = some (TxO X.w a ks)) : SetX X.w s.heap a ks := (I.hok a _ ha).1
def rSetT (K : PySem.W.Frag) (w : World) : List V → Hp → VK → Prop := fun xs H Q => ∃ (l : Addr) (zs : List Str), xs = [V.ref l] ∧ (SqL K H l (zs.map V.str) ∨ SqT K H l (zs.map V.str)) ∧ zs.length ≤ 1000 ∧
  ∀ p, H p = none → Q (.ref p) (upd H p (TxO w p (allT zs)))
theorem strsOf : ∀ {ys : List Str} {us : List Value}, Vals (ys.map V.str) us → StrsAre us ys
  | [], _, .nil => .nil
  | y :: ys, _, .cons ⟨t, e⟩ r => by
    subst e
    exact .cons y t (strsOf r)
theorem valsOf : ∀ {ys : List Str} {us : List Value}, StrsAre us ys → Vals (ys.map V.str) us
  | _, _, .nil => .nil
  | _, _, .cons y t r => .cons ⟨t, rfl⟩ (valsOf r)
theorem cr_setT (hc : X.calm = true) : CallR X (.type "set") (rSetT X.K X.w) := by
  intro pins s σ H xs us Q I r h
  obtain ⟨l, zs, rfl, hs, hfew, q⟩ := h
  rw [Vals.ref1 r]
  have few : zs.length + 1 < scanBound := by unfold scanBound; omega
  have fin : ∀ (h' : Heap) (tk : Nat), SetX X.w h' s.heap.objs.size (allT zs) → (∀ b o, s.heap.get? b = some o → h'.get? b = some o) → EP X pins σ Q (.ref s.heap.objs.size) { s with heap := h', toks := tk } := fun h' tk R k =>
    ⟨.ref _, _, I.laid k (Nat.le_refl _) (txo_ok R), rfl, q _ (I.hok.fresh (Nat.le_refl _))⟩
  rcases hs with hs | hs
  · obtain ⟨its, rv, hl, _⟩ := I.list hs
    exact tx_set_list (I.ok.hd hc) hl.isList (strsOf rv) few fin
  · obtain ⟨its, rv, hl, _⟩ := I.tuple hs
    have ⟨o, ho, hcl, hd⟩ := hl
    exact tx_set_tuple (I.ok.hd hc) ⟨o, ho, hcl, hd⟩ (strsOf rv) few fin
def rSortX (w : World) : List V → Hp → VK → Prop := fun vs H Q => ∃ (a : Addr) (ks : List Str), vs = [V.ref a] ∧ H a = some (TxO w a ks) ∧ ∀ p, H p = none → Q (.ref p) (upd H p (.lst ((uniq ks).map V.str)))
theorem cr_sortX (hc : X.calm = true) : CallR X (.builtin "sorted") (rSortX X.w) := by
  intro pins s σ H vs us Q I r h
  obtain ⟨a, ks, rfl, ha, q⟩ := h
  have R := txo_get I ha
  rw [Vals.ref1 r]
  have few : (uniq ks).length ≤ sizeLine := by
    have ⟨_, _, _, _, _, _, _, T⟩ := R
    have h1 := uniq_len ks
    have h2 := T.bd
    rw [sizeLine_eq]; unfold scanBound at h2; omega
  refine tx_sorted R (I.ok.hd hc) fun s' p out c zs k g o hp hg hi hz => ?_
  subst hz
  have hn : H p = none := I.hok.fresh hp
  have J : Inv X pins σ (upd H p (.lst ((uniq ks).map V.str))) { s with heap := s'.heap, gens := s'.gens, drawn := s'.drawn, toks := s'.toks } :=
    I.call (ch := []) (Un.laid k hp hn) (I.hok.laid k hp ⟨by rw [List.length_map]; exact few, out.toList, c, valsOf hi, hg⟩) (by rw [g]; exact I.bare) (fun _ z => nomatch z)
  have e : s' = { s with heap := s'.heap, gens := s'.gens, drawn := s'.drawn, toks := s'.toks } := by
    cases s'; cases s; cases o; rfl
  rw [e]
  exact ⟨.ref p, _, J, rfl, q p hn⟩
end
end Sd
namespace Sd
open PySem PySem.Spec PyProof.Rows L2
end Sd
namespace Sd
open PySem PySem.Spec PyProof.Rows L2
open AutoSeq1 (wpAny_loadPart')
end Sd
namespace Sd
open PySem PySem.Spec PyProof.Rows L2
structure Ga where
  K : PySem.W.Frag
  P : Program
  w : World
def Ga.c (g : Ga) (x : Str) : Addr := He.ga g.K x
abbrev Ga.cHand (g : Ga) : Addr := g.c "Hand"
abbrev Ga.cSystem (g : Ga) : Addr := g.c "System"
abbrev rAdd : R2 := rI0 fun i j => .int (i + j)
abbrev rSub : R2 := rI0 fun i j => .int (i - j)
abbrev rMul : R2 := rI CMul fun i j => .int (i * j)
abbrev rDiv : R2 := rI CDivW fun i j => .int (i / j)
abbrev rMod : R2 := rI (fun _ j => 0 < j) fun i j => .int (i % j)
abbrev rPow : R2 := rI CPow fun i j => .int (i ^ j.toNat)
abbrev rLt : R2 := rI0 fun i j => .bl (decide (i < j))
abbrev rLe : R2 := rI0 fun i j => .bl (decide (i ≤ j))
abbrev rGt : R2 := rI0 fun i j => .bl (decide (j < i))
abbrev rGe : R2 := rI0 fun i j => .bl (decide (j ≤ i))
abbrev rNeg : V → Hp → VK → Prop := rU fun i => .int (-i)
def rAddS : R2 := fun x y H Q => ∃ i j, x = .str i ∧ y = .str j ∧ i.length + j.length ≤ sizeLine ∧ Q (.str (i ++ j)) H
def rInt1 : List V → Hp → VK → Prop := fun xs H Q => (∃ i, xs = [.int i] ∧ Q (.int i) H) ∨ ∃ k, xs = [.bl k] ∧ Q (.int (if k then 1 else 0)) H
def rLenS (K : PySem.W.Frag) : List V → Hp → VK → Prop := fun xs H Q => ∃ p ys, xs = [.ref p] ∧ (SqL K H p ys ∨ SqT K H p ys) ∧ Q (.int ys.length) H
def rLenStr : List V → Hp → VK → Prop := fun xs H Q => ∃ z, xs = [.str z] ∧ z.length ≤ sizeLine ∧ Q (.int z.length) H
def rLen (K : PySem.W.Frag) : List V → Hp → VK → Prop := fun xs H Q => ∃ x n, xs = [x] ∧ LenV K x H n ∧ Q (.int n) H
def rListS (K : PySem.W.Frag) : List V → Hp → VK → Prop := fun xs H Q => ∃ p ys, xs = [.ref p] ∧ (SqL K H p ys ∨ SqT K H p ys) ∧ ∀ l, H l = none → Q (.ref l) (upd H l (.lst ys))
def rTupS (K : PySem.W.Frag) : List V → Hp → VK → Prop := fun xs H Q => ∃ p ys, xs = [.ref p] ∧ ((SqL K H p ys ∧ ∀ l, H l = none → Q (.ref l) (upd H l (.tup ys))) ∨ (SqT K H p ys ∧ Q (.ref p) H))
abbrev rApp : V → List V → Hp → VK → Prop := rAppend
section
variable {X : Cx}
theorem o_add : OpR X (binaryOp .Add) rAdd := op_add
theorem o_sub : OpR X (binaryOp .Sub) rSub := op_sub
theorem o_mul : OpR X (binaryOp .Mult) rMul := op_mul
theorem o_div : OpR X (binaryOp .FloorDiv) rDiv := op_fdivW
theorem o_mod : OpR X (binaryOp .Mod) rMod := op_mod
theorem o_pow : OpR X (binaryOp .Pow) rPow := op_pow
theorem o_cat : OpR X (binaryOp .Add) rCat := op_cat
theorem o_catA : OpR X (binaryOp .Add) (rCatA X.K) := op_catA
theorem o_adds : OpR X (binaryOp .Add) rAddS := op_add_str
theorem o_lt : OpR X (compareOp .Lt) rLt := op_lt
theorem o_le : OpR X (compareOp .LtE) rLe := op_le
theorem o_gt : OpR X (compareOp .Gt) rGt := op_gt
theorem o_ge : OpR X (compareOp .GtE) rGe := op_ge
theorem o_eq : OpR X (compareOp .Eq) rEq := op_eq
theorem o_ne : OpR X (compareOp .NotEq) rNe := op_ne
theorem o_eqD {k : Nat} (hr : Room k X.A) : OpR X (compareOp .Eq) (rEqD X.K) := op_eqD hr.units
theorem o_neD {k : Nat} (hr : Room k X.A) : OpR X (compareOp .NotEq) (rNeD X.K) := op_neD hr.units
theorem o_in : OpR X (compareOp .In) (rIn X.K false) := op_in_seq
theorem o_nin : OpR X (compareOp .NotIn) (rIn X.K true) := op_notIn_seq
theorem o_ins : OpR X (compareOp .In) rInS := op_inS
theorem o_nins : OpR X (compareOp .NotIn) rNotInS := op_notInS
theorem room65 {k : Nat} {A : Around} (hr : Room k A) : A.units + 65 < cLine := by
  have := hr.un
  omega
theorem o_inD {k : Nat} (hr : Room k X.A) : OpR X (compareOp .In) (rInD X.K) := op_inD (room65 hr)
theorem o_ninD {k : Nat} (hr : Room k X.A) : OpR X (compareOp .NotIn) (rNotInD X.K) := op_notInD (room65 hr)
theorem o_isN : OpR X (compareOp .Is) rIsN := op_isN1
theorem o_neg : UnR X (unaryOp .USub) rNeg := un_neg
theorem pe_gS {x : Str} {z : Str} {pos : Pos} (h : ∃ t, X.mg x = some (.str z t)) (hg : Gl X x := by rfl) (hd : (x == ("__debug__" : Str)) = false := by decide) : PE X (.Name x pos) (tC (.str z)) :=
  let ⟨_, e⟩ := h
  pe_glob hg e ⟨_, rfl⟩ hd
theorem pe_cl {x : Str} {C : Addr} {pos : Pos} (h : X.mg x = some (.ref C)) (hg : Gl X x := by rfl) (hd : (x == ("__debug__" : Str)) = false := by decide) : PE X (.Name x pos) (tC (.ref C)) := pe_glob hg h rfl hd
theorem pe_ty {x : Str} {n : String} {pos : Pos} (h : X.mg x = none) (hv : bootBuiltins x = some (.type n) := by decide +kernel) (hg : Gl X x := by rfl) (hn : x ≠ "__name__" := by decide) (hd : (x == ("__debug__" : Str)) = false := by decide) : PE X (.Name x pos) (tC (.ty n)) :=
  pe_bltn hg h hv rfl hn hd
end
structure Cal (g : Ga) (mg : Str → Option Value) (base : Heap) (lv : Nat) (x : Str) (ps : List Str) (dvs : List V) (sp : Sp) : Prop where
  ex : ∃ f fd ds, FnOk g.P g.w g.K mg base (L2.CX g.P g.w) lv f fd ps sp ∧ mg x = some (.ref f) ∧ PySem.W.keepIn g.K (.ref f) = true ∧ Binds g.K fd ps ds ∧ Vals dvs ds
structure CalM (g : Ga) (mg : Str → Option Value) (base : Heap) (lv : Nat) (x : Str) (ps : List Str) (dvs : List V) (sp : Sp) : Prop where
  ex : ∃ f fd ds, Mk g.K (g.c x) f ∧ FnOk g.P g.w g.K mg base (L2.CX g.P g.w) lv f fd ps sp ∧ mg x = some (.ref (g.c x)) ∧ Binds g.K fd ps ds ∧ Vals dvs ds
structure CalN (g : Ga) (mg : Str → Option Value) (base : Heap) (lv : Nat) (C m : Str) (ps : List Str) (dvs : List V) (sp : Sp) : Prop where
  ex : ∃ f fd ds, Cls g.K (g.c C) ∧ Meth g.K (g.c C) m f ∧ FnOk g.P g.w g.K mg base (L2.CX g.P g.w) lv f fd ps sp ∧ Binds g.K fd ps ds ∧ Vals dvs ds
section
variable {X : Cx} {lv : Nat} {x : Str} {ps : List Str} {dvs : List V} {sp : Sp} {p pos apos : Pos} {e o : Expr} {es : List Expr} {t : TA} {ta : TE} {C m : Str}
abbrev gX (X : Cx) : Ga := ⟨X.K, X.prog, X.w⟩
theorem pe_calE {E : XK} (c : Cal (gX X) X.mg X.base lv x ps dvs sp) (hr : Room lv X.A) (hg : Gl X x) (hx : Passes (L2.CX X.prog X.w) X E) (ha : PA X (e :: es) t) (hd : (x == ("__debug__" : Str)) = false := by decide)
    (he : starEach (e :: es) X.env = (false, eval e X.env) :: starEach es X.env := by rfl) (hpl : (backTo pos (starEach es X.env)).any (·.1) = false := by rfl) :
    PE X (.Call (.Name x p) (e :: es) [] pos) (tCall sp dvs E t) := by
  obtain ⟨f, fd, ds, F, hm, hk, hb, hv⟩ := c.ex
  exact pe_call F hr hg hm hk hb hv hx ha hd he hpl
theorem pe_cal (c : Cal (gX X) X.mg X.base lv x ps dvs sp) (hr : Room lv X.A) (hg : Gl X x) (ha : PA X (e :: es) t) (hd : (x == ("__debug__" : Str)) = false := by decide)
    (he : starEach (e :: es) X.env = (false, eval e X.env) :: starEach es X.env := by rfl) (hpl : (backTo pos (starEach es X.env)).any (·.1) = false := by rfl) :
    PE X (.Call (.Name x p) (e :: es) [] pos) (tCall sp dvs E0 t) := pe_calE c hr hg passL ha hd he hpl
theorem pe_mkE {E : XK} (c : CalM (gX X) X.mg X.base lv x ps dvs sp) (hr : Room (lv + 1) X.A) (hg : Gl X x) (hx : Passes (L2.CX X.prog X.w) X E) (ha : PA X (e :: es) t) (hd : (x == ("__debug__" : Str)) = false := by decide)
    (he : starEach (e :: es) X.env = (false, eval e X.env) :: starEach es X.env := by rfl) (hpl : (backTo pos (starEach es X.env)).any (·.1) = false := by rfl) :
    PE X (.Call (.Name x p) (e :: es) [] pos) (tMake ((gX X).c x) sp dvs E t) := by
  obtain ⟨f, fd, ds, M, F, hm, hb, hv⟩ := c.ex
  exact pe_make M F hr hg hm hb hv hx ha hd he hpl
theorem pe_meE {E : XK} {pl : Sem Bool} (c : CalN (gX X) X.mg X.base lv C m ps dvs sp) (ho : PE X o ta) (hr : Room lv X.A) (hx : Passes (L2.CX X.prog X.w) X E) (ha : PA X (e :: es) t)
    (he : starEach (e :: es) X.env = (false, eval e X.env) :: starEach es X.env := by rfl) (hpl : (backTo pos (starEach es X.env)).any (·.1) = false := by rfl)
    (hs : eval (.Call (.Attribute o m apos) (e :: es) [] pos) X.env = (do
      let ov ← eval o X.env
      standAt apos.atName
      let (f, first) ← holding [ov] (getMethod ov m pl)
      callWith pos f first (backTo pos (starEach (e :: es) X.env)) (backToKw pos (keywordEach [] X.env))) := by rfl) :
    PE X (.Call (.Attribute o m apos) (e :: es) [] pos) (tMeth ((gX X).c C) m sp dvs E ta t) := by
  obtain ⟨f, fd, ds, cl, M, F, hb, hv⟩ := c.ex
  exact pe_meth ho cl M F hr hb hv hx ha he hpl hs
end
/-- all but what stands at ps is as it was -/
def Ch (ps : List Addr) (H H' : Hp) : Prop := ∀ b o, H b = some o → b ∉ ps → H' b = some o
theorem Ch.refl {ps : List Addr} (H : Hp) : Ch ps H H := fun _ _ h _ => h
theorem Ch.same {ps : List Addr} {H H' : Hp} (h : Same H H') : Ch ps H H' := fun b o e _ => h b o e
theorem Ch.mono {ps qs : List Addr} {H H' : Hp} (h : Ch ps H H') (k : ∀ b ∈ ps, b ∈ qs) : Ch qs H H' := fun b o e n => h b o e fun m => n (k b m)
theorem Ch.trans {ps : List Addr} {H H1 H2 : Hp} (a : Ch ps H H1) (b : Ch ps H1 H2) : Ch ps H H2 := fun c o h n => b c o (a c o h n) n
theorem Ch.new {ps : List Addr} {H H' : Hp} {p : Addr} {o : HO} (h : Ch ps H H') (n : H' p = none) : Ch ps H (upd H' p o) := fun b u e m => by
  rw [upd_ne (ne_of_none (h b u e m) n)]
  exact h b u e m
/-- a place that was not tracked at H is written -/
theorem Ch.own {ps : List Addr} {H H' : Hp} {p : Addr} {o : HO} (h : Ch ps H H') (n : H p = none) : Ch ps H (upd H' p o) := fun b u e m => by
  rw [upd_ne (ne_of_none e n)]
  exact h b u e m
theorem Ch.at {ps : List Addr} {H H' : Hp} {p : Addr} {o : HO} (h : Ch ps H H') (n : p ∈ ps) : Ch ps H (upd H' p o) := fun b u e m => by
  have hb : b ≠ p := fun z => m (by rw [z]; exact n)
  rw [upd_ne hb]
  exact h b u e m
theorem Ch.free {ps : List Addr} {H H' : Hp} (h : Ch ps H H') {p : Addr} (n : H' p = none) (m : p ∉ ps) : H p = none := by
  cases q : H p with
  | none => rfl
  | some o => rw [h p o q m] at n; cases n
theorem Same.new {H : Hp} {p : Addr} {o : HO} (n : H p = none) : Same H (upd H p o) := fun b u e => by
  rw [upd_ne (ne_of_none e n)]; exact e
theorem Same.own {H H' : Hp} {p : Addr} {o : HO} (h : Same H H') (n : H p = none) : Same H (upd H' p o) := fun b u e => by
  rw [upd_ne (ne_of_none e n)]; exact h b u e
theorem Same.tup {K : PySem.W.Frag} {H H' : Hp} {a : Addr} {xs : List V} (e : Same H H') (h : SqT K H a xs) : SqT K H' a xs := by
  rcases h with (h | ⟨o, h⟩) | h
  · exact .inl (.inl (e _ _ h))
  · exact .inl (.inr ⟨o, e _ _ h⟩)
  · exact .inr h
end Sd
namespace Sd
open PySem PySem.Spec PyProof.Rows L2
def PoolO (o : HO) : Prop := ∃ a r n : Int, o = .lst [.int a, .int r, .int n] ∧ 0 ≤ a ∧ a < 2147483629 ∧ 0 ≤ r
def sp_law_draw (g : Ga) : Sp := fun vs H Q _ => ∃ (p : Addr) (o : HO) (m : Int), vs = [.ref p, .int m] ∧ H p = some o ∧ PoolO o ∧ 0 < m ∧ m ≤ 26 ^ 12 ∧ ∀ d o', 0 ≤ d → d < m → PoolO o' → Q (.int d) (upd H p o')
def t_law_cell (g : Ga) : TS := (tSeq (tIfS (tTest (tOp rLt (tVar 1) (tCB (rLenS g.K) (tCons (tVar 0) tNil)))) (tRet (tOp (rIxL g.K) (tVar 0) (tVar 1))) tNext) (tRet (tOp rAdd (tOp rMul (tC (.int 1009)) (tVar 1)) (tC (.int 5)))))
def t_law_pool (g : Ga) : TS := (tSeq (tAsg (tC (.int 0)) (gName 1)) (tSeq (tIfS (tTest (tOp rGe (tVar 0) (tOp rPow (tC (.int 10)) (tC (.int 18))))) (tAsg (tVar 0) (gName 1)) tNext) (tRet (tLst (tCons (tOp rMod (tCB rInt1 (tCons (tVar 0) tNil)) (tC (.int 2147483629))) (tCons (tVar 1) (tCons (tC (.int 0)) tNil)))))))
def t_law_draw (g : Ga) : TS := (tSeq (tAsg (tOp rAdd (tOp (rIxL g.K) (tVar 0) (tC (.int 2))) (tC (.int 1))) (gSub (tVar 0) (tC (.int 2)) rSetL)) (tSeq (tIfS (tTest (tOp rGt (tOp (rIxL g.K) (tVar 0) (tC (.int 1))) (tC (.int 0)))) (tSeq (tAsg (tOp rMod (tCB rInt1 (tCons (tOp (rIxL g.K) (tVar 0) (tC (.int 1))) tNil)) (tVar 1)) (gName 2)) (tSeq (tAsg (tOp rDiv (tOp (rIxL g.K) (tVar 0) (tC (.int 1))) (tVar 1)) (gSub (tVar 0) (tC (.int 1)) rSetL)) (tRet (tVar 2)))) tNext) (tSeq (tAsg (tOp rMod (tCB rInt1 (tCons (tOp rMul (tOp rAdd (tOp rAdd (tOp (rIxL g.K) (tVar 0) (tC (.int 0))) (tOp rMul (tC (.int 7919)) (tOp (rIxL g.K) (tVar 0) (tC (.int 2))))) (tC (.int 1))) (tC (.int 48271))) tNil)) (tC (.int 2147483647))) (gName 3)) (tSeq (tAsg (tOp rMod (tCB rInt1 (tCons (tOp rMul (tVar 3) (tOp rAdd (tOp rDiv (tVar 3) (tC (.int 1009))) (tC (.int 69621)))) tNil)) (tC (.int 2147483647))) (gName 3)) (tSeq (tAsg (tOp rMod (tCB rInt1 (tCons (tOp rMul (tVar 3) (tOp rAdd (tOp rDiv (tVar 3) (tC (.int 2003))) (tC (.int 40692)))) tNil)) (tC (.int 2147483399))) (gName 3)) (tRet (tOp rMod (tCB rInt1 (tCons (tOp rDiv (tVar 3) (tC (.int 16))) tNil)) (tVar 1))))))))
abbrev endsQ (Q : VK) : Ends := { nx := fun _ H' => Q .non H', rt := Q }
end Sd
namespace Sd
open PySem PySem.Spec PyProof.Rows L2
def nm (left : Nat) (acc : List Nat) : List Nat := if h : left = 0 then acc else nm ((left - 1) / 26) ((97 + (left - 1) % 26) :: acc)
termination_by left
decreasing_by
  have := Nat.div_le_self (left - 1) 26
  omega
theorem nm_zero (acc : List Nat) : nm 0 acc = acc := by rw [nm]; simp
theorem nm_pos {left : Nat} (h : left ≠ 0) (acc : List Nat) : nm left acc = nm ((left - 1) / 26) ((97 + (left - 1) % 26) :: acc) := by rw [nm, dif_neg h]
theorem nm_app : ∀ (left : Nat) (acc : List Nat), nm left acc = nm left [] ++ acc := by
  intro left
  induction left using Nat.strongRecOn with
  | ind left ih =>
    intro acc
    by_cases h : left = 0
    · subst h; rw [nm_zero, nm_zero]; rfl
    · have lt : (left - 1) / 26 < left := by
        have := Nat.div_le_self (left - 1) 26
        omega
      rw [nm_pos h, nm_pos h, ih _ lt, ih _ lt [_], List.append_assoc]; rfl
theorem nm_len : ∀ (k left : Nat), left < 26 ^ k → (nm left []).length ≤ k
  | 0, left, h => by
    have e : left = 0 := by simpa using h
    subst e; rw [nm_zero]; exact Nat.le_refl _
  | k + 1, left, h => by
    by_cases z : left = 0
    · subst z; rw [nm_zero]; exact Nat.zero_le _
    · rw [nm_pos z, nm_app, List.length_append]
      have : (left - 1) / 26 < 26 ^ k := by
        rw [Nat.pow_succ] at h
        exact Nat.div_lt_of_lt_mul (by omega)
      have := nm_len k _ this
      simp only [List.length_cons, List.length_nil]
      omega
theorem nm_len12 {left : Nat} (h : left ≤ 26 ^ 12) : (nm left []).length ≤ 12 := by
  by_cases z : left = 0
  · subst z; rw [nm_zero]; exact Nat.zero_le _
  · rw [nm_pos z, nm_app, List.length_append]
    have : (left - 1) / 26 < 26 ^ 11 := Nat.div_lt_of_lt_mul (by
      have : 26 * 26 ^ 11 = 26 ^ 12 := by decide
      omega)
    have := nm_len 11 _ this
    simp only [List.length_cons, List.length_nil]
    omega
theorem nm_ok : ∀ (left : Nat) (acc : List Nat), (∀ c ∈ acc, 97 ≤ c ∧ c < 123) → ∀ c ∈ nm left acc, 97 ≤ c ∧ c < 123 := by
  intro left
  induction left using Nat.strongRecOn with
  | ind left ih =>
    intro acc ha
    by_cases h : left = 0
    · subst h; rw [nm_zero]; exact ha
    · have lt : (left - 1) / 26 < left := by
        have := Nat.div_le_self (left - 1) 26
        omega
      rw [nm_pos h]
      refine ih _ lt _ fun c hc => ?_
      rcases List.mem_cons.mp hc with e | hc
      · have := Nat.mod_lt (left - 1) (by decide : 0 < 26)
        omega
      · exact ha c hc
theorem nm_ne {left : Nat} (h : left ≠ 0) : nm left [] ≠ [] := by
  rw [nm_pos h, nm_app]; simp
theorem nm_acc (left : Nat) (acc : List Nat) : acc.length ≤ (nm left acc).length := by
  rw [nm_app, List.length_append]; omega
/-- a name: 1 to 12 letters from a to z -/
def IsName (z : Str) : Prop := z.length ≠ 0 ∧ z.length ≤ 12 ∧ ∀ c ∈ tl z, 97 ≤ c ∧ c < 123
def nameOf (n : Nat) : Str := ⟨(nm (n + 1) []).toArray⟩
theorem len_tl (z : Str) : z.length = (tl z).length := by simp [Str.length, tl]
theorem tl_nameOf (n : Nat) : tl (nameOf n) = nm (n + 1) [] := by simp [tl, nameOf]
theorem nameOf_ok {n : Nat} (h : n < 26 ^ 12) : IsName (nameOf n) := by
  refine ⟨?_, ?_, ?_⟩
  · rw [len_tl, tl_nameOf]
    intro e
    exact nm_ne (Nat.succ_ne_zero n) (List.length_eq_zero_iff.mp e)
  · rw [len_tl, tl_nameOf]
    exact nm_len12 h
  · rw [tl_nameOf]
    exact nm_ok _ _ fun c hc => by cases hc
def sp_law_name (g : Ga) : Sp := fun vs H Q _ => ∃ n : Nat, vs = [.int n] ∧ n < 26 ^ 12 ∧ Q (.str (nameOf n)) H
abbrev abc : Str := "abcdefghijklmnopqrstuvwxyz"
theorem abc_tl : tl abc = (List.range 26).map (97 + ·) := by decide +kernel
theorem abc_len : abc.length = 26 := by decide +kernel
theorem abc_at {i : Nat} (h : i < 26) : atI (tl abc) (i : Int) = some (97 + i) := by
  rw [abc_tl]
  refine atI_nat ?_
  rw [List.getElem?_map, List.getElem?_range h]; rfl
theorem tl_cons (c : Nat) (z : Str) : tl ((⟨#[c]⟩ : Str) ++ z) = c :: tl z := by
  have h := TL.tl_append (⟨#[c]⟩ : Str) z
  simpa [tl, TL.tl] using h
def t_law_name (g : Ga) : TS := (tSeq (tAsg (tC (.str "")) (gName 1)) (tSeq (tAsg (tOp rAdd (tVar 0) (tC (.int 1))) (gName 2)) (tSeq (tWhile (tTest (tOp rGt (tVar 2) (tC (.int 0)))) (tSeq (tAsg (tOp rSub (tVar 2) (tC (.int 1))) (gName 2)) (tSeq (tAsg (tOp rAddS (tOp rIxS (tC (.str "abcdefghijklmnopqrstuvwxyz")) (tOp rMod (tCB rInt1 (tCons (tVar 2) tNil)) (tC (.int 26)))) (tVar 1)) (gName 1)) (tAsg (tOp rDiv (tVar 2) (tC (.int 26))) (gName 2))))) (tRet (tVar 1)))))
end Sd
namespace Sd
open PySem PySem.Spec PyProof.Rows L2
def unm (a c : Nat) : Nat := a * 26 + (c - 97) + 1
theorem unm_nm : ∀ (left : Nat) (acc : List Nat), (nm left acc).foldl unm 0 = acc.foldl unm left := by
  intro left
  induction left using Nat.strongRecOn with
  | ind left ih =>
    intro acc
    by_cases h : left = 0
    · subst h; rw [nm_zero]
    · have lt : (left - 1) / 26 < left := by
        have := Nat.div_le_self (left - 1) 26
        omega
      rw [nm_pos h, ih _ lt, List.foldl_cons]
      have e : unm ((left - 1) / 26) (97 + (left - 1) % 26) = left := by
        unfold unm
        have := Nat.div_add_mod (left - 1) 26
        omega
      rw [e]
theorem nameOf_inj {a b : Nat} (h : nameOf a = nameOf b) : a = b := by
  have h1 : nm (a + 1) [] = nm (b + 1) [] := by rw [← tl_nameOf, ← tl_nameOf, h]
  have h2 := unm_nm (a + 1) []
  rw [h1, unm_nm (b + 1) []] at h2
  simp only [List.foldl_nil] at h2
  omega
theorem nodup_le : ∀ (l D : List Nat), l.Nodup → (∀ x ∈ l, x ∈ D) → l.length ≤ D.length
  | [], _, _, _ => Nat.zero_le _
  | a :: l, D, nd, h => by
    have h1 := List.nodup_cons.mp nd
    have ih := nodup_le l (D.erase a) h1.2 fun x hx => (List.mem_erase_of_ne (fun e => h1.1 (by rw [← e]; exact hx))).mpr (h x (List.mem_cons_of_mem _ hx))
    have ha := h a List.mem_cons_self
    have := List.length_erase_of_mem ha
    have := List.length_pos_of_mem ha
    rw [List.length_cons]
    omega
theorem not_all_in {M v : Nat} {L : List Nat} (hM : L.length < M) (h : ∀ j, j ≤ L.length → (v + j) % M ∈ L) : False := by
  have nd : ((List.range (L.length + 1)).map fun j => (v + j) % M).Nodup := by
    rw [List.Nodup, List.pairwise_map]
    refine List.Pairwise.imp_of_mem ?_ List.nodup_range
    intro a b ha hb ne e
    rw [List.mem_range] at ha hb
    apply ne
    have h1 := Nat.div_add_mod (v + a) M
    have h2 := Nat.div_add_mod (v + b) M
    rw [e] at h1
    generalize (v + a) / M = x at h1
    generalize (v + b) / M = y at h2
    rcases Nat.lt_trichotomy x y with c | c | c
    · have : M * (x + 1) ≤ M * y := Nat.mul_le_mul_left M c
      rw [Nat.mul_succ] at this
      omega
    · subst c; omega
    · have : M * (y + 1) ≤ M * x := Nat.mul_le_mul_left M c
      rw [Nat.mul_succ] at this
      omega
  have le := nodup_le _ L nd fun x hx => by
    obtain ⟨j, hj, rfl⟩ := List.mem_map.mp hx
    exact h j (by rw [List.mem_range] at hj; omega)
  rw [List.length_map, List.length_range] at le
  omega
abbrev MM : Nat := 26 ^ 12
def vN (n : Nat) : V := .int (n : Int)
theorem vN_flat (L : List Nat) : (L.map vN).all flatV = true := by
  rw [List.all_map, List.all_eq_true]; intro x _; rfl
theorem inV_nat (v : Nat) : ∀ L : List Nat, inV (vN v) (L.map vN) = decide (v ∈ L)
  | [] => by simp [inV]
  | a :: L => by
    have ih := inV_nat v L
    have e : eqV (vN a) (vN v) = decide (a = v) := by
      unfold vN eqV
      by_cases h : a = v
      · subst h; simp
      · have : ¬ (a : Int) = (v : Int) := by omega
        simp [h, this]
    unfold inV at ih ⊢
    rw [List.map_cons, List.any_cons, e, ih]
    by_cases h : a = v
    · subst h; simp
    · have h2 : ¬ v = a := fun z => h z.symm
      simp [h, h2]
def t_law_names (g : Ga) : TS := (tSeq (tAsg (tLst tNil) (gName 2)) (tSeq (tFor (iRng1 (tCons (tVar 1) tNil)) (gName 3) (tSeq (tAsg (tCall (sp_law_draw g) [] E0 (tCons (tVar 0) (tCons (tC (.int 26)) tNil))) (gName 4)) (tSeq (tIfS (tTest (tOp rEq (tCall (sp_law_draw g) [] E0 (tCons (tVar 0) (tCons (tC (.int 4)) tNil))) (tC (.int 0)))) (tAsg (tCall (sp_law_draw g) [] E0 (tCons (tVar 0) (tCons (tOp rPow (tC (.int 26)) (tC (.int 12))) tNil))) (gName 4)) tNext) (tSeq (tFor (iRng1 (tCons (tVar 3) tNil)) (gName 5) (tIfS (tTest (tOp (rIn g.K false) (tVar 4) (tVar 2))) (tAsg (tOp rMod (tCB rInt1 (tCons (tOp rAdd (tVar 4) (tC (.int 1))) tNil)) (tOp rPow (tC (.int 26)) (tC (.int 12)))) (gName 4)) tNext)) (tDrop (tBM g.K "list" rApp (tVar 2) (tCons (tVar 4) tNil))))))) (tRet (tLc (iList g.K (tVar 2)) (gName 4) tYes (tCall (sp_law_name g) [] E0 (tCons (tVar 4) tNil)) [4]))))
/-- the number is made different from those before it, and kept -/
def t_names_fix (g : Ga) : TS := (tSeq (tFor (iRng1 (tCons (tVar 3) tNil)) (gName 5) (tIfS (tTest (tOp (rIn g.K false) (tVar 4) (tVar 2))) (tAsg (tOp rMod (tCB rInt1 (tCons (tOp rAdd (tVar 4) (tC (.int 1))) tNil)) (tOp rPow (tC (.int 26)) (tC (.int 12)))) (gName 4)) tNext)) (tDrop (tBM g.K "list" rApp (tVar 2) (tCons (tVar 4) tNil))))
theorem names_fix {g : Ga} {D : Ends} {p l2 : Addr} {m v : Nat} {L : List Nat} {H : Hp} {c : Option V} {kk : Int} (hk : kk = L.length) (nd : L.Nodup) (few : L.length ≤ 16) (hb : ∀ v ∈ L, v < MM) (hv : v < MM) (hl : H l2 = some (.lst (L.map vN)))
    (k : ∀ v' a, v' < MM → v' ∉ L → D.nx [some (.ref p), some (.int m), some (.ref l2), some (.int kk), some (vN v'), a] (upd H l2 (.lst ((L ++ [v']).map vN)))) :
    t_names_fix g D [some (.ref p), some (.int m), some (.ref l2), some (.int kk), some (vN v), c] H := by
  have ek : kk.toNat = L.length := by omega
  refine ⟨_, rfl, _, rfl, by omega, by omega, ?_⟩
  rw [ek]
  refine for_range (n := L.length) (fun i σ H' => H' = H ∧ ∃ (v' : Nat) (a : Option V), σ = [some (.ref p), some (.int m), some (.ref l2), some (.int kk), some (vN v'), a] ∧ v' < MM ∧ (v' ∉ L ∨ (v' = (v + i) % MM ∧ ∀ j, j ≤ i → (v + j) % MM ∈ L)))
    ⟨rfl, v, c, rfl, hv, ?_⟩ ?_ ?_
  · by_cases h : v ∈ L
    · refine .inr ⟨(Nat.mod_eq_of_lt hv).symm, fun j hj => ?_⟩
      obtain rfl : j = 0 := by omega
      rw [Nat.add_zero, Nat.mod_eq_of_lt hv]; exact h
    · exact .inl h
  · rintro i σ H' hi ⟨rfl, v', a, rfl, hv', alt⟩
    refine ⟨_, rfl, _, rfl, l2, L.map vN, rfl, .inl (SqL.of hl), rfl, vN_flat L, _, rfl, ?_⟩
    rw [if_neg Bool.false_ne_true, inV_nat]
    refine ite2 (fun hin => ?_) (fun hin => ?_)
    · have hin := of_decide_eq_true hin
      have e1 : ((v' : Int) + 1) % 26 ^ (12 : Int).toNat = (((v' + 1) % MM : Nat) : Int) := by
        show ((v' : Int) + 1) % 26 ^ 12 = _
        rw [Int.natCast_emod]; rfl
      refine ⟨_, rfl, _, _, rfl, rfl, .inl ⟨_, rfl, _, _, rfl, rfl, ⟨by decide, by decide, by decide⟩, _, _, rfl, rfl, (show (0 : Int) < 26 ^ (12 : Int).toNat by decide), ?_⟩⟩
      refine ⟨rfl, (v' + 1) % MM, some (V.int (0 + (i : Int))), ?_, Nat.mod_lt _ (by decide), ?_⟩
      · show [some (V.ref p), some (V.int m), some (V.ref l2), some (V.int kk), some (V.int (((v' : Int) + 1) % 26 ^ (12 : Int).toNat)), some (V.int (0 + (i : Int)))] = _
        rw [e1]; rfl
      · rcases alt with n | ⟨e, all⟩
        · exact absurd hin n
        · have e2 : (v' + 1) % MM = (v + (i + 1)) % MM := by rw [e, Nat.mod_add_mod]; rfl
          by_cases h : (v' + 1) % MM ∈ L
          · refine .inr ⟨e2, fun j hj => ?_⟩
            by_cases hji : j ≤ i
            · exact all j hji
            · obtain rfl : j = i + 1 := by omega
              rw [← e2]; exact h
          · exact .inl h
    · have hin : v' ∉ L := fun z => hin (decide_eq_true z)
      exact ⟨rfl, v', _, rfl, hv', .inl hin⟩
  · rintro σ H' ⟨rfl, v', a, rfl, hv', alt⟩
    have hn : v' ∉ L := by
      rcases alt with n | ⟨e, all⟩
      · exact n
      · exact (not_all_in (M := MM) (v := v) (Nat.lt_of_le_of_lt few (by decide)) all).elim
    have k' := k v' a hv' hn
    rw [List.map_append] at k'
    refine ⟨_, rfl, .inl ⟨rfl, _, SqL.of hl⟩, _, rfl, l2, _, _, rfl, rfl, hl, ?_, k'⟩
    rw [List.length_map]
    exact small1000 (by omega)
end Sd
namespace Sd
open PySem PySem.Spec PyProof.Rows L2
mutual
theorem dp_mono {K : PySem.W.Frag} {H H' : Hp} (s : Same H H') : ∀ (d : PyData) (x : V), Dp K H x d → Dp K H' x d
  | .none, _, h => by cases h; exact .non
  | .bool b, _, h => by cases h; exact .bl b
  | .int i, _, h => by cases h; exact .int i
  | .str z, _, h => by cases h; exact .str z
  | .list ds, _, h => by cases h with | lst hs ha => exact .lst (s.seq hs) (dpAll_mono s ds _ ha)
  | .tuple ds, _, h => by cases h with | tup hs ha => exact .tup (Same.tup s hs) (dpAll_mono s ds _ ha)
  | .dict _, _, h => by cases h
theorem dpAll_mono {K : PySem.W.Frag} {H H' : Hp} (s : Same H H') : ∀ (ds : List PyData) (xs : List V), DpAll K H xs ds → DpAll K H' xs ds
  | [], _, h => by cases h; exact .nil
  | d :: ds, _, h => by cases h with | cons a b => exact .cons (dp_mono s d _ a) (dpAll_mono s ds _ b)
end
theorem Dp.keep {K : PySem.W.Frag} {H H' : Hp} {d : PyData} {x : V} (h : Dp K H x d) (s : Same H H') : Dp K H' x d := dp_mono s d x h
def seqOf (K : PySem.W.Frag) (H : Hp) (x : V) (xs : List V) : Prop := ∃ a, x = .ref a ∧ (SqL K H a xs ∨ SqT K H a xs)
def t_law_same (g : Ga) (sp : Sp) : TS := (tSeq (tIfS (tTest (tOp rIsN (tVar 1) (tC .non))) (tRet (tOp rIsN (tVar 0) (tC .non))) tNext) (tSeq (tIfS (tB (tCB (rIsi g.K) (tCons (tVar 1) (tCons (tC (.ty "bool")) tNil)))) (tRet (tAndV (tCB (rIsi g.K) (tCons (tVar 0) (tCons (tC (.ty "bool")) tNil))) (tOp rEq (tVar 0) (tVar 1)))) tNext) (tSeq (tIfS (tB (tCB (rIsi g.K) (tCons (tVar 1) (tCons (tC (.ty "int")) tNil)))) (tRet (tAndV (tCB (rIsi g.K) (tCons (tVar 0) (tCons (tC (.ty "int")) tNil))) (tAndV (tNotV (tCB (rIsi g.K) (tCons (tVar 0) (tCons (tC (.ty "bool")) tNil)))) (tOp rEq (tVar 0) (tVar 1))))) tNext) (tSeq (tIfS (tB (tCB (rIsi g.K) (tCons (tVar 1) (tCons (tC (.ty "str")) tNil)))) (tRet (tAndV (tCB (rIsi g.K) (tCons (tVar 0) (tCons (tC (.ty "str")) tNil))) (tOp rEq (tVar 0) (tVar 1)))) tNext) (tSeq (tIfS (tAnd (tB (tCB (rIsi g.K) (tCons (tVar 1) (tCons (tC (.ty "list")) tNil)))) (tNot (tB (tCB (rIsi g.K) (tCons (tVar 0) (tCons (tC (.ty "list")) tNil)))))) (tRet (tC (.bl false))) tNext) (tSeq (tIfS (tAnd (tB (tCB (rIsi g.K) (tCons (tVar 1) (tCons (tC (.ty "tuple")) tNil)))) (tNot (tB (tCB (rIsi g.K) (tCons (tVar 0) (tCons (tC (.ty "tuple")) tNil)))))) (tRet (tC (.bl false))) tNext) (tSeq (tIfS (tB (tCB (rIsi g.K) (tCons (tVar 1) (tCons (tC (.ty "dict")) tNil)))) (tRet (tAndV (tCB (rIsi g.K) (tCons (tVar 0) (tCons (tC (.ty "dict")) tNil))) (tOp rEq (tVar 0) (tVar 1)))) tNext) (tSeq (tIfS (tTest (tOp rNe (tCB (rLen g.K) (tCons (tVar 0) tNil)) (tCB (rLen g.K) (tCons (tVar 1) tNil)))) (tRet (tC (.bl false))) tNext) (tSeq (tFor (iRng1 (tCons (tCB (rLen g.K) (tCons (tVar 1) tNil)) tNil)) (gName 2) (tIfS (tNot (tB (tCall sp [] E0 (tCons (tOp (rIx g.K) (tVar 0) (tVar 2)) (tCons (tOp (rIx g.K) (tVar 1) (tVar 2)) tNil))))) (tRet (tC (.bl false))) tNext)) (tRet (tC (.bl true))))))))))))
end Sd
namespace Sd
open PySem PySem.Spec PyProof.Rows L2
/-- a reading of arguments made monotone -/
def tMonoA (ta : TA) : TA := fun σ H Q => ∃ Q0 : List V → Hp → Prop, ta σ H Q0 ∧ ∀ vs H1, Q0 vs H1 → Q vs H1
theorem pa_mono {X : Cx} {es : List Expr} {ta : TA} (h : PA X es ta) : PA X es (tMonoA ta) := ⟨fun pos pins s σ H Q I ⟨Q0, h0, hq⟩ => thn (h.run pos pins s σ H Q0 I h0) fun us s' ⟨vs, H', I', r, q⟩ => ⟨vs, H', I', r, hq _ _ q⟩⟩
def sp_exc (C : Addr) (f : Str) : Sp := fun vs H Q _ => ∃ (a : Addr) (v : V), vs = [.ref a, v] ∧ H a = some (exo a C none) ∧ ∀ d, H d = none → d ≠ a → Q .non (upd (upd H d (exd d [(f, v)])) a (exo a C (some d)))
theorem len_exc {C : Addr} {f : Str} {vs : List V} {H : Hp} {Q : VK} {E : XK} (h : sp_exc C f vs H Q E) : vs.length = 2 := by
  obtain ⟨_, _, rfl, _⟩ := h; rfl
structure XCl (g : Ga) (mg : Str → Option Value) (base : Heap) (lv : Nat) (x f : Str) : Prop where
  ox : OexC g.K (g.c x)
  xf : XfC g.K (g.c x)
  no : PySem.W.findIn g.K (.ref (g.c x)) f = some none
  gl : mg x = some (.ref (g.c x))
  ex : ∃ fI fd ps, PySem.W.findIn g.K (.ref (g.c x)) "__init__" = some (some (.ref fI)) ∧ PySem.W.typeIn g.K (.ref fI) = some (.type "function") ∧ FnOk g.P g.w g.K mg base (L2.CX g.P g.w) lv fI fd ps (sp_exc (g.c x) f) ∧ Binds g.K fd ps []
/-- the making of the error: its own dict d holds f -/
def tMkX (C : Addr) (f : Str) (ta : TA) : L2.St → Hp → XK → Prop := fun σ H Q => ta σ H fun vs H1 => ∃ v, vs = [v] ∧ ∀ d, H1 d = none → Q (.ref C) (some d) (upd H1 d (.xd [(f, v)]))
theorem pmk_X {X : Cx} {lv : Nat} {x f : Str} {e : Expr} {ta : TA} {p pos : Pos} (c : XCl (gX X) X.mg X.base lv x f) (hr : Room (lv + 1) X.A) (hg : Gl X x) (ha : PA X [e] ta) (hd : (x == ("__debug__" : Str)) = false := by decide)
    (he : starEach (e :: []) X.env = (false, eval e X.env) :: starEach [] X.env := by rfl) (hpl : (backTo pos (starEach [] X.env)).any (·.1) = false := by rfl) :
    PMk X (.Call (.Name x p) [e] [] pos) (tMkX ((gX X).c x) f ta) := by
  obtain ⟨fI, fd, ps, h1, h2, F, hb⟩ := c.ex
  have base := pmk_oex (e := e) (es := []) (p := p) (pos := pos) (dvs := []) c.ox h1 h2 F hr hb .nil (fun _ _ _ _ _ _ _ h => by
    obtain ⟨_, _, _, _, _, _, _, _, _, _, _, _, z⟩ := h
    exact z.elim) hg c.gl (pa_mono ha) hd he hpl
  intro pins s σ H Q I h
  refine base pins s σ H Q I ⟨_, h, ?_⟩
  rintro vs H1 ⟨v, rfl, q⟩
  refine ⟨(show 1 ≤ 1000 by decide), fun a na => ⟨a, v, rfl, upd_same, fun d nd dne => ⟨rfl, d, [(f, v)], upd_same, ?_, ?_, ?_⟩⟩⟩
  · rw [upd_ne dne, upd_same]
  · rw [upd_ne dne] at nd; exact nd
  · have nd' : H1 d = none := by rw [upd_ne dne] at nd; exact nd
    have e1 : upd (del (upd (upd (upd H1 a (exo a ((gX X).c x) none)) d (exd d [(f, v)])) a (exo a ((gX X).c x) (some d))) a) d (.xd [(f, v)]) = upd H1 d (.xd [(f, v)]) := by
      funext b
      by_cases hb : b = d
      · subst hb; rw [upd_same, upd_same]
      · rw [upd_ne hb, upd_ne hb]
        by_cases ha : b = a
        · subst ha; rw [del_same, na]
        · rw [del_ne ha, upd_ne ha, upd_ne hb, upd_ne ha]
    rw [e1]
    exact q d nd'
/-- raise X(e) -/
def tRaiseX (C : Addr) (f : Str) (E : XK) (ta : TA) : TS := fun _ σ H => tMkX C f ta σ H fun cls d H' => (fun (cls : Value) (d : Option Addr) (_ : L2.St) (H : Hp) => E cls d H) cls d σ H'
/-- its __init__ -/
def t_exc (K : PySem.W.Frag) (f : Str) : TS := tOst K f (tVar 0) (tVar 1)
theorem pure_exc {g : Ga} {x f : Str} {N : List Str} {vs : List V} {H : Hp} {Q : VK} {E : XK} (ox : OexC g.K (g.c x)) (no : PySem.W.findIn g.K (.ref (g.c x)) f = some none) (h : sp_exc (g.c x) f vs H Q E) : t_exc g.K f (endsQ Q) (L2.start N vs) H := by
  obtain ⟨a, v, rfl, ha, q⟩ := h
  exact ⟨_, rfl, _, rfl, a, _, rfl, ox, no, .inl ⟨ha, fun dx h1 h2 => q dx h1 h2⟩⟩
/-- what is wanted where X(v) is raised, the rest as it was -/
def RaisesX (E : XK) (C : Addr) (f : Str) (v : V) (H : Hp) : Prop := ∀ d H', Same H H' → H' d = none → E (.ref C) (some d) (upd H' d (.xd [(f, v)]))
theorem RaisesX.same {E : XK} {C : Addr} {f : Str} {v : V} {H H1 : Hp} (h : RaisesX E C f v H) (s : Same H H1) : RaisesX E C f v H1 := fun d H' s' n => h d H' (s.trans s') n
end Sd
namespace Sd
open PySem PySem.Spec PyProof.Rows L2
def isNameB (z : Str) : Bool := decide (1 ≤ z.length) && decide (z.length ≤ 12) && (tl z).all fun c => decide (97 ≤ c ∧ c < 123)
theorem isNameB_iff {z : Str} : isNameB z = true ↔ IsName z := by
  unfold isNameB IsName
  rw [Bool.and_eq_true, Bool.and_eq_true, decide_eq_true_eq, decide_eq_true_eq, List.all_eq_true]
  constructor
  · rintro ⟨⟨a, b⟩, c⟩
    exact ⟨by omega, b, fun x hx => of_decide_eq_true (c x hx)⟩
  · rintro ⟨a, b, c⟩
    exact ⟨⟨by omega, b⟩, fun x hx => decide_eq_true (c x hx)⟩
/-- the value is no int (but perhaps a bool) -/
def NoInt (K : PySem.W.Frag) (H : Hp) (x : V) : Prop := ∃ t bi bb, TyX K H x t ∧ PySem.W.kitOne K t (.type "int") = some bi ∧ PySem.W.kitOne K t (.type "bool") = some bb ∧ (bi && !bb) = false
def NoTy (K : PySem.W.Frag) (H : Hp) (x : V) (n : String) : Prop := ∃ t, TyX K H x t ∧ PySem.W.kitOne K t (.type n) = some false
def StateV (K : PySem.W.Frag) (H : Hp) (x : V) (b : Bool) : Prop := (∃ i : Int, x = .int i ∧ b = decide (0 ≤ i ∧ i ≤ 99)) ∨ (NoInt K H x ∧ b = false)
def NameV (K : PySem.W.Frag) (H : Hp) (x : V) (b : Bool) : Prop := (∃ z : Str, x = .str z ∧ z.length ≤ sizeLine ∧ b = isNameB z) ∨ (NoTy K H x "str" ∧ b = false)
def StepV (K : PySem.W.Frag) (H : Hp) (x : V) (b : Bool) : Prop := (∃ (a : Addr) (x0 x1 x2 : V) (b0 b1 b2 : Bool), x = .ref a ∧ SqT K H a [x0, x1, x2] ∧ StateV K H x0 b0 ∧ NameV K H x1 b1 ∧ StateV K H x2 b2 ∧ b = (b0 && (b1 && b2))) ∨
  (∃ (a : Addr) (xs : List V), x = .ref a ∧ SqT K H a xs ∧ xs.length ≠ 3 ∧ b = false) ∨ (NoTy K H x "tuple" ∧ b = false)
/-- a row (True), no row (False) -/
def RowV (K : PySem.W.Frag) (H : Hp) (x : V) (b : Bool) : Prop := ∃ t, TyX K H x t ∧ PySem.W.kitAny K t [.type "list", .type "tuple"] = some b
def t_is_name (g : Ga) : TS := (tSeq (tIfS (tOr (tNot (tB (tCB (rIsi g.K) (tCons (tVar 0) (tCons (tC (.ty "str")) tNil))))) (tNot (tTest (tChain rLe rLe (tC (.int 1)) (tCB rLenStr (tCons (tVar 0) tNil)) (tC (.int 12)))))) (tRet (tC (.bl false))) tNext) (tSeq (tFor (iStr (tVar 0)) (gName 1) (tIfS (tTest (tOp rNotInS (tVar 1) (tC (.str "abcdefghijklmnopqrstuvwxyz")))) (tRet (tC (.bl false))) tNext)) (tRet (tC (.bl true)))))
def t_is_row (g : Ga) : TS := (tRet (tCB (rIsiT g.K) (tCons (tVar 0) (tCons (tTup (tCons (tC (.ty "list")) (tCons (tC (.ty "tuple")) tNil))) tNil))))
theorem kb {K : PySem.W.Frag} {a b : String} {r : Bool} (h : kitB a b = some r) : PySem.W.kitOne K (.type a) (.type b) = some r := h
theorem tyx_mono {K : PySem.W.Frag} {H H' : Hp} {x : V} {t : Value} (s : Same H H') (h : TyX K H x t) : TyX K H' x t := by
  cases h with
  | base h =>
    cases h with
    | non => exact .base .non
    | bl b => exact .base (.bl b)
    | int i => exact .base (.int i)
    | str z => exact .base (.str z)
    | flt f => exact .base (.flt f)
    | lst e => exact .base (.lst (s _ _ e))
    | frz e => exact .base (.frz (s _ _ e))
    | tup e => exact .base (.tup (s _ _ e))
    | dK e => exact .base (.dK (s _ _ e))
    | dT e => exact .base (.dT (s _ _ e))
    | ins e cl ha hn htk hm => exact .base (.ins (s _ _ e) cl ha hn htk hm)
  | byt b => exact .byt b
  | set e => exact .set (s _ _ e)
  | kList e c => exact .kList e c
  | kTuple e c => exact .kTuple e c
  | kDict e c => exact .kDict e c
  | fTuple e => exact .fTuple (s _ _ e)
  | fDict e => exact .fDict (s _ _ e)
theorem NoInt.mono {K : PySem.W.Frag} {H H' : Hp} {x : V} (s : Same H H') (h : NoInt K H x) : NoInt K H' x := let ⟨t, bi, bb, a, r⟩ := h; ⟨t, bi, bb, tyx_mono s a, r⟩
theorem NoTy.mono {K : PySem.W.Frag} {H H' : Hp} {x : V} {n : String} (s : Same H H') (h : NoTy K H x n) : NoTy K H' x n := let ⟨t, a, r⟩ := h; ⟨t, tyx_mono s a, r⟩
theorem StateV.mono {K : PySem.W.Frag} {H H' : Hp} {x : V} {b : Bool} (s : Same H H') (h : StateV K H x b) : StateV K H' x b := h.imp id fun z => ⟨z.1.mono s, z.2⟩
theorem NameV.mono {K : PySem.W.Frag} {H H' : Hp} {x : V} {b : Bool} (s : Same H H') (h : NameV K H x b) : NameV K H' x b := h.imp id fun z => ⟨z.1.mono s, z.2⟩
theorem StepV.mono {K : PySem.W.Frag} {H H' : Hp} {x : V} {b : Bool} (s : Same H H') (h : StepV K H x b) : StepV K H' x b := by
  rcases h with ⟨a, x0, x1, x2, b0, b1, b2, e, hs, v0, v1, v2, eb⟩ | ⟨a, xs, e, hs, hl, eb⟩ | ⟨no, eb⟩
  · exact .inl ⟨a, x0, x1, x2, b0, b1, b2, e, Same.tup s hs, v0.mono s, v1.mono s, v2.mono s, eb⟩
  · exact .inr (.inl ⟨a, xs, e, Same.tup s hs, hl, eb⟩)
  · exact .inr (.inr ⟨no.mono s, eb⟩)
theorem RowV.mono {K : PySem.W.Frag} {H H' : Hp} {x : V} {b : Bool} (s : Same H H') (h : RowV K H x b) : RowV K H' x b := let ⟨t, a, r⟩ := h; ⟨t, tyx_mono s a, r⟩
end Sd
namespace Sd
open PySem PySem.Spec PyProof.Rows L2
theorem PI.or {X : Cx} {tg l : Expr} {w1 w2 : TI} (h1 : PI X tg l w1) (h2 : PI X tg l w2) : PI X tg l (fun σ H R => w1 σ H R ∨ w2 σ H R) := ⟨fun pins s σ H R I h => h.elim (h1.run pins s σ H R I) (h2.run pins s σ H R I)⟩
def iSeq (K : PySem.W.Frag) (te : TE) : TI := fun σ H R => iList K te σ H R ∨ iTup K te σ H R
theorem pi_seq {X : Cx} {tg l : Expr} {te : TE} (h : PE X l te) : PI X tg l (iSeq X.K te) := PI.or (pi_list h) (pi_tup h)
abbrev Step := Int × Str × Int
def StepAt (K : PySem.W.Frag) (H : Hp) (v : V) (s : Step) : Prop := ∃ a, v = .ref a ∧ SqT K H a [.int s.1, .str s.2.1, .int s.2.2]
abbrev StepsAt (K : PySem.W.Frag) (H : Hp) (xs : List V) (L : List Step) : Prop := Paired (StepAt K H) xs L
theorem StepAt.mono {K : PySem.W.Frag} {H H' : Hp} {v : V} {s : Step} (e : Same H H') (h : StepAt K H v s) : StepAt K H' v s := let ⟨a, r, t⟩ := h; ⟨a, r, Same.tup e t⟩
theorem paired_mono {α β : Type} {F G : α → β → Prop} (h : ∀ a b, F a b → G a b) : ∀ {l : List α} {m : List β}, Paired F l m → Paired G l m
  | _, _, .nil => .nil
  | _, _, .cons r t => .cons (h _ _ r) (paired_mono h t)
theorem StepsAt.mono {K : PySem.W.Frag} {H H' : Hp} {xs : List V} {L : List Step} (e : Same H H') (h : StepsAt K H xs L) : StepsAt K H' xs L := paired_mono (fun _ _ z => z.mono e) h
theorem name_strOk {z : Str} (h : IsName z) : PyData.strOk z = true := by
  unfold PyData.strOk
  rw [← Array.all_toList, List.all_eq_true]
  intro c hc
  have := h.2.2 c hc
  exact decide_eq_true (by omega)
def okStep (s : Step) : Prop := (0 ≤ s.1 ∧ s.1 ≤ 99) ∧ IsName s.2.1 ∧ (0 ≤ s.2.2 ∧ s.2.2 ≤ 99)
def leavingN (L : List Step) (s : Int) : Nat := (L.filter fun t => decide (t.1 = s)).length
end Sd
namespace Sd
open PySem PySem.Spec PyProof.Rows L2
/-- what an item is: a step, or none -/
def ItemV (K : PySem.W.Frag) (H : Hp) (v : V) : Option Step → Prop
  | some s => StepAt K H v s ∧ okStep s
  | none => StepV K H v false
theorem ItemV.mono {K : PySem.W.Frag} {H H' : Hp} {v : V} {o : Option Step} (e : Same H H') (h : ItemV K H v o) : ItemV K H' v o := by
  cases o with
  | some s => exact ⟨StepAt.mono e h.1, h.2⟩
  | none => exact StepV.mono e h
theorem ItemV.step {K : PySem.W.Frag} {H : Hp} {v : V} {s : Step} (h : ItemV K H v (some s)) : StepV K H v true := by
  obtain ⟨⟨a, rfl, t⟩, h0, h1, h2⟩ := h
  have hl : s.2.1.length ≤ sizeLine := by
    have := h1.2.1
    have : (12 : Nat) ≤ sizeLine := by decide
    omega
  exact .inl ⟨a, _, _, _, true, true, true, rfl, t, .inl ⟨_, rfl, (decide_eq_true h0).symm⟩, .inl ⟨_, rfl, hl, (isNameB_iff.mpr h1).symm⟩, .inl ⟨_, rfl, (decide_eq_true h2).symm⟩, rfl⟩
/-- the index of the first item that is not taken (kept: the steps so far), or all are -/
def firstBad : List (Option Step) → List Step → Nat → Option Nat
  | [], _, _ => none
  | none :: _, _, i => some i
  | some s :: r, kept, i => if s ∈ kept then some i else if leavingN kept s.1 = 4 then some i else firstBad r (kept ++ [s]) (i + 1)
end Sd
namespace Sd
open PySem PySem.Spec PyProof.Rows L2
def AscI (l : List Int) : Prop := l.Pairwise (· < ·)
theorem ascI_nodup {l : List Int} (h : AscI l) : l.Nodup := by
  refine List.Pairwise.imp ?_ h
  intro a b k e
  omega
theorem nodup_leG {α : Type} [DecidableEq α] : ∀ (l D : List α), l.Nodup → (∀ x ∈ l, x ∈ D) → l.length ≤ D.length
  | [], _, _, _ => Nat.zero_le _
  | a :: l, D, nd, h => by
    have h1 := List.nodup_cons.mp nd
    have ih := nodup_leG l (D.erase a) h1.2 fun x hx => (List.mem_erase_of_ne (fun e => h1.1 (by rw [← e]; exact hx))).mpr (h x (List.mem_cons_of_mem _ hx))
    have ha := h a List.mem_cons_self
    have := List.length_erase_of_mem ha
    have := List.length_pos_of_mem ha
    rw [List.length_cons]
    omega
def insI (z : Int) : List Int → List Int
  | [] => [z]
  | x :: r => if z = x then x :: r else if z < x then z :: x :: r else x :: insI z r
def uniqI : List Int → List Int
  | [] => []
  | z :: r => insI z (uniqI r)
theorem mem_insI {z y : Int} : ∀ {l : List Int}, y ∈ insI z l ↔ y = z ∨ y ∈ l
  | [] => by simp [insI]
  | x :: r => by
    unfold insI
    split
    · rename_i e; subst e; simp
    · split
      · simp
      · rw [List.mem_cons, mem_insI, List.mem_cons]
        constructor
        · rintro (h | h | h)
          · exact .inr (.inl h)
          · exact .inl h
          · exact .inr (.inr h)
        · rintro (h | h | h)
          · exact .inr (.inl h)
          · exact .inl h
          · exact .inr (.inr h)
theorem mem_uniqI {y : Int} : ∀ {l : List Int}, y ∈ uniqI l ↔ y ∈ l
  | [] => Iff.rfl
  | z :: r => by rw [uniqI, mem_insI, mem_uniqI, List.mem_cons]
theorem asc_insI {z : Int} : ∀ {l : List Int}, AscI l → AscI (insI z l)
  | [], _ => List.pairwise_singleton _ _
  | x :: r, h => by
    have h1 := List.pairwise_cons.mp h
    unfold insI
    split
    · exact h
    · split
      · rename_i lt
        refine List.pairwise_cons.mpr ⟨fun y hy => ?_, h⟩
        rcases List.mem_cons.mp hy with e | hy
        · rw [e]; exact lt
        · have := h1.1 y hy; omega
      · refine List.pairwise_cons.mpr ⟨fun y hy => ?_, asc_insI h1.2⟩
        rcases mem_insI.mp hy with e | hy
        · omega
        · exact h1.1 y hy
theorem asc_uniqI : ∀ l : List Int, AscI (uniqI l)
  | [] => List.Pairwise.nil
  | z :: r => asc_insI (asc_uniqI r)
inductive Reach (L : List Step) (s0 : Int) : Int → Prop
  | base : Reach L s0 s0
  | step {x y : Int} {w : Str} : Reach L s0 x → (x, w, y) ∈ L → Reach L s0 y
open Classical in
noncomputable def reachL (L : List Step) (s0 : Int) : List Int := (uniqI (s0 :: L.map (·.2.2))).filter fun x => decide (Reach L s0 x)
theorem reach_cand {L : List Step} {s0 x : Int} (h : Reach L s0 x) : x ∈ s0 :: L.map (·.2.2) := by
  cases h with
  | base => exact List.mem_cons_self
  | step _ m => exact List.mem_cons_of_mem _ (List.mem_map.mpr ⟨_, m, rfl⟩)
open Classical in
theorem mem_reachL {L : List Step} {s0 x : Int} : x ∈ reachL L s0 ↔ Reach L s0 x := by
  unfold reachL
  rw [List.mem_filter, mem_uniqI, decide_eq_true_eq]
  exact ⟨fun h => h.2, fun h => ⟨reach_cand h, h⟩⟩
theorem asc_reachL (L : List Step) (s0 : Int) : AscI (reachL L s0) := List.Pairwise.filter _ (asc_uniqI _)
/-- what the search keeps -/
structure Fnd (L : List Step) (s0 : Int) (ns : List Int) : Prop where
  nd : ns.Nodup
  st : s0 ∈ ns
  re : ∀ x ∈ ns, Reach L s0 x
theorem Fnd.len {L : List Step} {s0 : Int} {ns : List Int} (h : Fnd L s0 ns) : ns.length ≤ L.length + 1 := by
  have := nodup_leG ns (s0 :: L.map (·.2.2)) h.nd fun x hx => reach_cand (h.re x hx)
  rw [List.length_cons, List.length_map] at this
  exact this
theorem Fnd.all {L : List Step} {s0 : Int} {ns : List Int} (h : Fnd L s0 ns) (cl : ∀ s ∈ L, s.1 ∈ ns → s.2.2 ∈ ns) : ∀ x, x ∈ ns ↔ Reach L s0 x := fun x => ⟨h.re x, fun r => by
  induction r with
  | base => exact h.st
  | step _ m ih => exact cl _ m ih⟩
end Sd
namespace Sd
open PySem PySem.Spec PyProof.Rows L2
def wordsOf (L : List Step) : List Str := uniq (L.map (·.2.1))
def handF (s0 : Int) (p q r : Addr) : List (Str × V) := [("start", .int s0), ("steps", .ref p), ("words", .ref q), ("states", .ref r)]
structure HandAt (g : Ga) (H : Hp) (x : Addr) (s0 : Int) (L : List Step) : Prop where
  ex : ∃ (dx p q r : Addr) (xs : List V), H x = some (.ins g.cHand dx (handF s0 p q r)) ∧ SqT g.K H p xs ∧ StepsAt g.K H xs L ∧ SqT g.K H q ((wordsOf L).map V.str) ∧ SqT g.K H r ((reachL L s0).map V.int)
theorem HandAt.mono {g : Ga} {H H' : Hp} {x : Addr} {s0 : Int} {L : List Step} (s : Same H H') (h : HandAt g H x s0 L) : HandAt g H' x s0 L := by
  obtain ⟨dx, p, q, r, xs, h1, h2, h3, h4, h5⟩ := h.ex
  exact ⟨dx, p, q, r, xs, s _ _ h1, Same.tup s h2, StepsAt.mono s h3, Same.tup s h4, Same.tup s h5⟩
end Sd
namespace Sd
open PySem PySem.Spec PyProof.Rows L2
theorem sqL_upd {K : PySem.W.Frag} {H : Hp} {a p : Addr} {xs : List V} {o : HO} (ne : a ≠ p) (h : SqL K H a xs) : SqL K (upd H p o) a xs := by
  rcases h with (h | ⟨u, h⟩) | h
  · exact .inl (.inl (by rw [upd_ne ne]; exact h))
  · exact .inl (.inr ⟨u, by rw [upd_ne ne]; exact h⟩)
  · exact .inr h
theorem sqT_upd {K : PySem.W.Frag} {H : Hp} {a p : Addr} {xs : List V} {o u : HO} (hp : H p = some u) (nt : ∀ ys, u ≠ .tup ys) (nf : ∀ v w, u ≠ .frz v w) (h : SqT K H a xs) : SqT K (upd H p o) a xs := by
  rcases h with (h | ⟨v, h⟩) | h
  · exact .inl (.inl (by rw [upd_ne (ne_of h hp (Ne.symm (nt _)))]; exact h))
  · exact .inl (.inr ⟨v, by rw [upd_ne (ne_of h hp (Ne.symm (nf _ _)))]; exact h⟩)
  · exact .inr h
theorem lst_nt {xs : List V} : (∀ ys, HO.lst xs ≠ .tup ys) ∧ ∀ v w, HO.lst xs ≠ .frz v w := ⟨(fun ys z => by cases z), fun v w z => by cases z⟩
theorem steps_upd {K : PySem.W.Frag} {H : Hp} {p : Addr} {xs : List V} {L : List Step} {o u : HO} (hp : H p = some u) (nt : (∀ ys, u ≠ .tup ys) ∧ ∀ v w, u ≠ .frz v w) (h : StepsAt K H xs L) : StepsAt K (upd H p o) xs L :=
  paired_mono (fun _ _ ⟨b, e, z⟩ => ⟨b, e, sqT_upd hp nt.1 nt.2 z⟩) h
/-- xs[_law_draw(pool, len(xs))] -/
theorem pick {g : Ga} {σ : L2.St} {H : Hp} {Q : VK} {sx sp : Nat} {a p : Addr} {xs : List V} {o : HO} (h1 : σ[sx]? = some (some (.ref a))) (h2 : σ[sp]? = some (some (.ref p))) (hs : SqL g.K H a xs) (hp : H p = some o) (po : PoolO o) (ne : a ≠ p) (hl : 0 < xs.length) (hl2 : xs.length ≤ 1000)
    (q : ∀ (d : Nat) v o', xs[d]? = some v → PoolO o' → Q v (upd H p o')) :
    tOp (rIxL g.K) (tVar sx) (tCall (sp_law_draw g) [] E0 (tCons (tVar sp) (tCons (tCB (rLenS g.K) (tCons (tVar sx) tNil)) tNil))) σ H Q := by
  refine ⟨_, h1, _, h2, _, h1, a, xs, rfl, .inl hs, p, o, xs.length, rfl, hp, po, by omega, ?_, fun d o' d0 d1 po' => ?_⟩
  · have : (1000 : Int) ≤ 26 ^ 12 := by decide
    omega
  · obtain ⟨k, rfl⟩ := Int.eq_ofNat_of_zero_le d0
    have hk : k < xs.length := by omega
    exact ⟨a, xs, _, xs[k], rfl, rfl, sqL_upd ne hs, atI_nat (List.getElem?_eq_getElem hk), q k _ o' (List.getElem?_eq_getElem hk) po'⟩
theorem firstBad_snoc : ∀ (L kept : List Step) (i : Nat) (s : Step), firstBad (L.map some) kept i = none → s ∉ kept ++ L → leavingN (kept ++ L) s.1 ≠ 4 → firstBad ((L ++ [s]).map some) kept i = none
  | [], kept, i, s, _, h1, h2 => by
    rw [List.append_nil] at h1 h2
    simp [firstBad, h1, h2]
  | t :: L, kept, i, s, h, h1, h2 => by
    rw [List.map_cons] at h
    rw [List.cons_append, List.map_cons]
    unfold firstBad at h ⊢
    split at h
    · cases h
    · split at h
      · cases h
      · rename_i c1 c2
        rw [if_neg c1, if_neg c2]
        exact firstBad_snoc L (kept ++ [t]) (i + 1) s h (by simpa using h1) (by simpa using h2)
/-- drawn steps: over the names zs and the states ss -/
structure Drawn (zs : List Str) (ss : List Int) (L : List Step) : Prop where
  fb : firstBad (L.map some) [] 0 = none
  wd : ∀ s ∈ L, s.2.1 ∈ zs
  fr : ∀ s ∈ L, s.1 ∈ ss
  to : ∀ s ∈ L, s.2.2 ∈ ss
theorem Drawn.nil (zs : List Str) (ss : List Int) : Drawn zs ss [] := ⟨rfl, (fun s h => by cases h), (fun s h => by cases h), fun s h => by cases h⟩
theorem Drawn.snoc {zs : List Str} {ss : List Int} {L : List Step} (h : Drawn zs ss L) {s : Step} (h1 : s ∉ L) (h2 : leavingN L s.1 < 4) (hw : s.2.1 ∈ zs) (hf : s.1 ∈ ss) (ht : s.2.2 ∈ ss) : Drawn zs ss (L ++ [s]) := by
  refine ⟨firstBad_snoc L [] 0 s h.fb (by simpa using h1) (by rw [List.nil_append]; omega), ?_, ?_, ?_⟩
  all_goals
    intro t ht'
    rcases List.mem_append.mp ht' with w | w
  · exact h.wd t w
  · rw [List.mem_singleton.mp w]; exact hw
  · exact h.fr t w
  · rw [List.mem_singleton.mp w]; exact hf
  · exact h.to t w
  · rw [List.mem_singleton.mp w]; exact ht
theorem Drawn.ok {zs : List Str} {ss : List Int} {L : List Step} (h : Drawn zs ss L) (hz : ∀ z ∈ zs, IsName z) (hs : ∀ s ∈ ss, 0 ≤ s ∧ s ≤ 99) : ∀ s ∈ L, okStep s := fun s m => ⟨hs _ (h.fr s m), hz _ (h.wd s m), hs _ (h.to s m)⟩
end Sd
namespace Sd
open PySem PySem.Spec PyProof.Rows L2
def Closed (L : List Step) (ns : List Int) : Prop := ∀ s ∈ L, s.1 ∈ ns → s.2.2 ∈ ns
theorem Fnd.le {L : List Step} {s0 : Int} {ns : List Int} (h : Fnd L s0 ns) : ns.length ≤ (reachL L s0).length := nodup_leG ns _ h.nd fun x hx => mem_reachL.mpr (h.re x hx)
theorem depth_map {α : Type} (f : α → PyData) (n : Nat) (hf : ∀ a, (f a).depth ≤ n) : ∀ l : List α, PyData.depthAll (l.map f) ≤ n
  | [] => Nat.zero_le _
  | a :: l => by
    rw [List.map_cons]; unfold PyData.depthAll
    have h1 := hf a
    have h2 := depth_map f n hf l
    omega
end Sd
namespace Sd
open PySem PySem.Spec PyProof.Rows L2
theorem words_le {zs : List Str} {L : List Step} (h : ∀ s ∈ L, s.2.1 ∈ zs) : (wordsOf L).length ≤ zs.length := by
  refine nodup_leG _ _ ?_ fun x hx => ?_
  · exact List.Pairwise.imp (fun {a b} k e => by rw [e] at k; exact absurd k (ltT_irr b)) (asc_uniq _)
  · obtain ⟨s, hs, rfl⟩ := List.mem_map.mp (mem_uniq.mp hx)
    exact h s hs
theorem reach_in {ss : List Int} {L : List Step} {s0 x : Int} (h0 : s0 ∈ ss) (ht : ∀ s ∈ L, s.2.2 ∈ ss) (h : Reach L s0 x) : x ∈ ss := by
  cases h with
  | base => exact h0
  | step _ m => exact ht _ m
theorem reach_le {ss : List Int} {L : List Step} {s0 : Int} (h0 : s0 ∈ ss) (ht : ∀ s ∈ L, s.2.2 ∈ ss) : (reachL L s0).length ≤ ss.length :=
  nodup_leG _ _ (ascI_nodup (asc_reachL L s0)) fun _ hx => reach_in h0 ht (mem_reachL.mp hx)
theorem seqOf_mono {K : PySem.W.Frag} {H H' : Hp} {x : V} {xs : List V} (s : Same H H') (h : seqOf K H x xs) : seqOf K H' x xs := by
  obtain ⟨a, rfl, h | h⟩ := h
  · exact ⟨a, rfl, .inl (s.seq h)⟩
  · exact ⟨a, rfl, .inr (Same.tup s h)⟩
theorem HandAt.upd {g : Ga} {H : Hp} {x p : Addr} {s0 : Int} {L : List Step} {xs : List V} {u : HO} (hp : H p = some (.lst xs)) (h : HandAt g H x s0 L) : HandAt g (upd H p u) x s0 L := by
  obtain ⟨dx, a, b, c, ys, h1, h2, h3, h4, h5⟩ := h.ex
  have nt := lst_nt (xs := xs)
  refine ⟨dx, a, b, c, ys, ?_, sqT_upd hp nt.1 nt.2 h2, steps_upd hp nt h3, sqT_upd hp nt.1 nt.2 h4, sqT_upd hp nt.1 nt.2 h5⟩
  rw [upd_ne (ne_of h1 hp (fun z => by cases z))]
  exact h1
end Sd
namespace Sd
open PySem PySem.Spec PyProof.Rows L2
end Sd
namespace Sd
open PySem PySem.Spec PyProof.Rows L2
structure RowAt (K : PySem.W.Frag) (H : Hp) (v : V) (r : Int × List Step) : Prop where
  ex : ∃ (a l : Addr) (xs : List V), v = .ref a ∧ H a = some (.tup [.int r.1, .ref l]) ∧ H l = some (.lst xs) ∧ StepsAt K H xs r.2
theorem RowAt.mono {K : PySem.W.Frag} {H H' : Hp} {v : V} {r : Int × List Step} (s : Same H H') (h : RowAt K H v r) : RowAt K H' v r := by
  obtain ⟨a, l, xs, h0, h1, h2, h3⟩ := h.ex
  exact ⟨a, l, xs, h0, s _ _ h1, s _ _ h2, StepsAt.mono s h3⟩
/-- the same, of its list P -/
structure RowP (K : PySem.W.Frag) (P : Addr → Prop) (H : Hp) (v : V) (r : Int × List Step) : Prop where
  ex : ∃ (a l : Addr) (xs : List V), v = .ref a ∧ P l ∧ H a = some (.tup [.int r.1, .ref l]) ∧ H l = some (.lst xs) ∧ StepsAt K H xs r.2
theorem RowP.mono {K : PySem.W.Frag} {P : Addr → Prop} {H H' : Hp} {v : V} {r : Int × List Step} (s : Same H H') (h : RowP K P H v r) : RowP K P H' v r := by
  obtain ⟨a, l, xs, h0, hp, h1, h2, h3⟩ := h.ex
  exact ⟨a, l, xs, h0, hp, s _ _ h1, s _ _ h2, StepsAt.mono s h3⟩
theorem RowP.imp {K : PySem.W.Frag} {P P' : Addr → Prop} {H : Hp} {v : V} {r : Int × List Step} (s : ∀ l, P l → P' l) (h : RowP K P H v r) : RowP K P' H v r := let ⟨a, l, xs, h0, hp, h1⟩ := h; ⟨a, l, xs, h0, s _ hp, h1⟩
theorem RowP.row {K : PySem.W.Frag} {P : Addr → Prop} {H : Hp} {v : V} {r : Int × List Step} (h : RowP K P H v r) : RowAt K H v r := let ⟨a, l, xs, h0, _, h1⟩ := h; ⟨a, l, xs, h0, h1⟩
/-- another list is written -/
theorem RowP.upd {K : PySem.W.Frag} {p : Addr} {H : Hp} {v : V} {r : Int × List Step} {ys : List V} {u : HO} (hp : H p = some (.lst ys)) (h : RowP K (fun l => l ≠ p) H v r) : RowP K (fun l => l ≠ p) (L2.upd H p u) v r := by
  obtain ⟨a, l, xs, h0, hl, h1, h2, h3⟩ := h.ex
  exact ⟨a, l, xs, h0, hl, by rw [upd_ne (ne_of h1 hp fun z => by cases z)]; exact h1, by rw [upd_ne hl]; exact h2, steps_upd hp lst_nt h3⟩
structure GoodRow (zs : List Str) (ms : Nat) (r : Int × List Step) : Prop where
  ex : ∃ ss : List Int, Drawn zs ss r.2 ∧ (∀ s ∈ ss, 0 ≤ s ∧ s ≤ 99) ∧ ss.length ≤ ms ∧ r.1 ∈ ss
  l1 : 1 ≤ r.2.length
  l2 : r.2.length ≤ 24
  top : r.1 ≤ 75 + 3 * (ms : Int) ∧ ∀ t ∈ r.2, t.1 ≤ 75 + 3 * (ms : Int) ∧ t.2.2 ≤ 75 + 3 * (ms : Int)
end Sd
namespace Sd
open PySem PySem.Spec PyProof.Rows L2
def IsH (g : Ga) (H : Hp) (v : V) (b : Bool) : Prop := ∃ t, TyX g.K H v t ∧ PySem.W.kitOne g.K t (.ref g.cHand) = some b
theorem IsH.mono {g : Ga} {H H' : Hp} {v : V} {b : Bool} (s : Same H H') (h : IsH g H v b) : IsH g H' v b := let ⟨t, a, r⟩ := h; ⟨t, tyx_mono s a, r⟩
def ItemI (K : PySem.W.Frag) (H : Hp) (v : V) : Option Int → Prop
  | some i => v = .int i
  | none => NoInt K H v
theorem noInt_mono {K : PySem.W.Frag} {H H' : Hp} {v : V} (s : Same H H') (h : NoInt K H v) : NoInt K H' v := let ⟨t, b, c, ty, r⟩ := h; ⟨t, b, c, tyx_mono s ty, r⟩
theorem ItemI.mono {K : PySem.W.Frag} {H H' : Hp} {v : V} {o : Option Int} (s : Same H H') (h : ItemI K H v o) : ItemI K H' v o := by
  cases o with
  | none => exact noInt_mono s h
  | some i => exact h
end Sd
namespace Sd
open PySem PySem.Spec PyProof.Rows L2
abbrev Rw := Int × List Step
def HandR (g : Ga) (H : Hp) (v : V) (r : Rw) : Prop := ∃ a, v = .ref a ∧ HandAt g H a r.1 r.2
theorem HandR.mono {g : Ga} {H H' : Hp} {v : V} {r : Rw} (s : Same H H') (h : HandR g H v r) : HandR g H' v r := let ⟨a, e, z⟩ := h; ⟨a, e, HandAt.mono s z⟩
def sysWords (rs : List Rw) : List Str := uniq (rs.flatMap fun r => wordsOf r.2)
def sysF (h d w s : Addr) : List (Str × V) := [("hands", .ref h), ("diligent", .ref d), ("words", .ref w), ("start", .ref s)]
structure SysAt (g : Ga) (H : Hp) (x : Addr) (rs : List Rw) (ds : List Int) : Prop where
  ex : ∃ (dx h d w s : Addr) (xs : List V), H x = some (.ins g.cSystem dx (sysF h d w s)) ∧ SqT g.K H h xs ∧ Paired (HandR g H) xs rs ∧ SqT g.K H d (ds.map V.int) ∧ SqT g.K H w ((sysWords rs).map V.str) ∧ H s = some (.tup ((rs.map (·.1)).map V.int))
theorem SysAt.mono {g : Ga} {H H' : Hp} {x : Addr} {rs : List Rw} {ds : List Int} (e : Same H H') (h : SysAt g H x rs ds) : SysAt g H' x rs ds := by
  obtain ⟨dx, h, d, w, s, xs, h1, h2, h3, h4, h5, h6⟩ := h.ex
  exact ⟨dx, h, d, w, s, xs, e _ _ h1, Same.tup e h2, paired_mono (fun _ _ z => z.mono e) h3, Same.tup e h4, Same.tup e h5, e _ _ h6⟩
/-- an own class whose instances isinstance may look at -/
structure IsC (g : Ga) (C : Addr) : Prop where
  cl : Cls g.K C
  ha : PySem.W.findIn g.K (.ref C) "__class__" = some (some (.builtin "object.__class__"))
  hn : PySem.W.specialIn g.K (.builtin "object.__class__") "__get__" = some (some (.builtin "getset_descriptor.__get__"))
  ht : PySem.W.takesIn g.K (.builtin "object.__class__") = some true
  hm : PySem.W.mroIn g.K C (.type "object") = some true
def isB (K : PySem.W.Frag) (x : Str) : Bool := decide (PySem.W.findIn K (.ref (He.ga K x)) "__class__" = some (some (.builtin "object.__class__"))) && (decide (PySem.W.specialIn K (.builtin "object.__class__") "__get__" = some (some (.builtin "getset_descriptor.__get__"))) && (decide (PySem.W.takesIn K (.builtin "object.__class__") = some true) && (decide (PySem.W.mroIn K (He.ga K x) (.type "object") = some true) && decide (PySem.W.kitOne K (.ref (He.ga K x)) (.ref (He.ga K x)) = some true))))
theorem isB_ok {g : Ga} {x : Str} (cl : Cls g.K (g.c x)) (h : isB g.K x = true) : IsC g (g.c x) ∧ PySem.W.kitOne g.K (.ref (g.c x)) (.ref (g.c x)) = some true := by
  obtain ⟨h1, h⟩ := Bool.and_eq_true_iff.mp h
  obtain ⟨h2, h⟩ := Bool.and_eq_true_iff.mp h
  obtain ⟨h3, h⟩ := Bool.and_eq_true_iff.mp h
  obtain ⟨h4, h5⟩ := Bool.and_eq_true_iff.mp h
  exact ⟨⟨cl, of_decide_eq_true h1, of_decide_eq_true h2, of_decide_eq_true h3, of_decide_eq_true h4⟩, of_decide_eq_true h5⟩
def DilV (g : Ga) (H : Hp) (w : V) (m : Nat) (ds : List Int) : Prop := (w = .non ∧ ds = (List.range m).map fun k : Nat => (k : Int)) ∨ ∃ ks : List Int, seqOf g.K H w (ks.map V.int) ∧ ks.length ≤ 1000 ∧ ks.Nodup ∧ (∀ k ∈ ks, 0 ≤ k ∧ k < m) ∧ AscI ds ∧ ∀ k, k ∈ ds ↔ k ∈ ks
theorem DilV.mono {g : Ga} {H H' : Hp} {w : V} {m : Nat} {ds : List Int} (s : Same H H') (h : DilV g H w m ds) : DilV g H' w m ds := by
  rcases h with h | ⟨ks, h, r⟩
  · exact .inl h
  · exact .inr ⟨ks, seqOf_mono s h, r⟩
end Sd
namespace Sd
open PySem PySem.Spec PyProof.Rows L2
structure RowsAt (g : Ga) (H : Hp) (rl : Addr) (rs : List Rw) : Prop where
  ex : ∃ xs : List V, H rl = some (.lst xs) ∧ Paired (RowAt g.K H) xs rs
theorem RowsAt.mono {g : Ga} {H H' : Hp} {rl : Addr} {rs : List Rw} (s : Same H H') (h : RowsAt g H rl rs) : RowsAt g H' rl rs := let ⟨xs, a, b⟩ := h; ⟨xs, s _ _ a, paired_mono (fun _ _ z => z.mono s) b⟩
/-- what is drawn: rows and diligent hands -/
structure DrawnRows (zs : List Str) (mh mw ms : Nat) (rs : List Rw) (ks : List Int) : Prop where
  ok : ∀ r ∈ rs, GoodRow zs ms r
  zl : zs.length ≤ mw
  zn : ∀ z ∈ zs, IsName z
  n1 : 1 ≤ rs.length
  n2 : rs.length ≤ mh
  asc : AscI ks
  rng : ∀ k ∈ ks, 0 ≤ k ∧ k < (rs.length : Int)
end Sd
namespace Sd
open PySem PySem.Spec PyProof.Rows L2
theorem GoodRow.words {zs : List Str} {ms : Nat} {r : Rw} (h : GoodRow zs ms r) : (wordsOf r.2).length ≤ zs.length := by
  obtain ⟨ss, dr, _⟩ := h.ex
  exact words_le dr.wd
theorem GoodRow.reach {zs : List Str} {ms : Nat} {r : Rw} (h : GoodRow zs ms r) : (reachL r.2 r.1).length ≤ ms := by
  obtain ⟨ss, dr, _, l, m⟩ := h.ex
  exact Nat.le_trans (reach_le m dr.to) l
theorem GoodRow.okS {zs : List Str} {ms : Nat} {r : Rw} (hz : ∀ z ∈ zs, IsName z) (h : GoodRow zs ms r) : ∀ s ∈ r.2, okStep s := by
  obtain ⟨ss, dr, hs, _⟩ := h.ex
  exact dr.ok hz hs
theorem GoodRow.fb {zs : List Str} {ms : Nat} {r : Rw} (h : GoodRow zs ms r) : firstBad (r.2.map some) [] 0 = none := by
  obtain ⟨ss, dr, _⟩ := h.ex
  exact dr.fb
theorem GoodRow.st {zs : List Str} {ms : Nat} {r : Rw} (h : GoodRow zs ms r) : 0 ≤ r.1 ∧ r.1 ≤ 99 := by
  obtain ⟨ss, dr, hs, _, m⟩ := h.ex
  exact hs _ m
theorem uniq_le {l : List Str} {zs : List Str} (h : ∀ z ∈ l, z ∈ zs) : (uniq l).length ≤ zs.length := by
  refine nodup_leG _ _ ?_ fun x hx => h x (mem_uniq.mp hx)
  exact List.Pairwise.imp (fun {a b} k e => by rw [e] at k; exact absurd k (ltT_irr b)) (asc_uniq _)
theorem sysWords_le {zs : List Str} {ms : Nat} {rs : List Rw} (h : ∀ r ∈ rs, GoodRow zs ms r) : (sysWords rs).length ≤ zs.length := by
  refine uniq_le fun z hz => ?_
  obtain ⟨r, hr, hz⟩ := List.mem_flatMap.mp hz
  obtain ⟨ss, dr, _⟩ := (h r hr).ex
  obtain ⟨s, hs, rfl⟩ := List.mem_map.mp (mem_uniq.mp hz)
  exact dr.wd s hs
/-- rows of which a system can be made -/
structure SysRows (rs : List Rw) (ks : List Int) : Prop where
  n1 : 1 ≤ rs.length
  n4 : rs.length ≤ 4
  st : ∀ r ∈ rs, 0 ≤ r.1 ∧ r.1 ≤ 99
  ok : ∀ r ∈ rs, ∀ s ∈ r.2, okStep s
  fb : ∀ r ∈ rs, firstBad (r.2.map some) [] 0 = none
  l1 : ∀ r ∈ rs, 1 ≤ r.2.length
  l2 : ∀ r ∈ rs, r.2.length ≤ 24
  w8 : ∀ r ∈ rs, (wordsOf r.2).length ≤ 8
  r8 : ∀ r ∈ rs, (reachL r.2 r.1).length ≤ 8
  w12 : (sysWords rs).length ≤ 12
  asc : AscI ks
  rng : ∀ k ∈ ks, 0 ≤ k ∧ k < (rs.length : Int)
end Sd
namespace Sd
open PySem PySem.Spec PyProof.Rows L2
def optV : Option Int → V
  | none => .non
  | some i => .int i
def hit (st : Int) (w : Str) (s : Step) : Bool := decide (s.1 = st) && decide (s.2.1 = w)
/-- the places of the steps that fit -/
def hits (st : Int) (w : Str) (L : List Step) : List Nat := (List.range L.length).filter fun k => (L[k]?.map (hit st w)).getD false
def numbersOf (L : List Step) (st : Int) (w : Str) : List (Option Int) := if w ∈ L.map (·.2.1) then (hits st w L).map fun k : Nat => some (k : Int) else [none]
theorem hits_snoc {st : Int} {w : Str} {L : List Step} {i : Nat} {s : Step} (h : L[i]? = some s) : ((List.range (i + 1)).filter fun k => (L[k]?.map (hit st w)).getD false) = ((List.range i).filter fun k => (L[k]?.map (hit st w)).getD false) ++ if hit st w s = true then [i] else [] := by
  rw [List.range_succ, List.filter_append, List.filter_cons, List.filter_nil, h]
  simp only [Option.map_some, Option.getD_some]
end Sd
namespace Sd
open PySem PySem.Spec PyProof.Rows L2
def stepL (ls : List (List (Option Int))) (ns : List (Option Int)) : List (List (Option Int)) := ls.flatMap fun l => ns.map fun n => l ++ [n]
def linesOf (nums : List (List (Option Int))) : List (List (Option Int)) := nums.foldl stepL [[]]
abbrev Move := Str × List (Option Int)
def numsAt (rs : List Rw) (sts : List Int) (w : Str) : List (List (Option Int)) := List.zipWith (fun r st => numbersOf r.2 st w) rs sts
def movesW (rs : List Rw) (sts : List Int) (w : Str) : List Move := (linesOf (numsAt rs sts w)).map fun l => (w, l)
def movesOf (rs : List Rw) (sts : List Int) : List Move := (sysWords rs).flatMap (movesW rs sts)
def LineAt (K : PySem.W.Frag) (H : Hp) (v : V) (l : List (Option Int)) : Prop := ∃ b, v = .ref b ∧ SqT K H b (l.map optV)
theorem LineAt.mono {K : PySem.W.Frag} {H H' : Hp} {v : V} {l : List (Option Int)} (s : Same H H') (h : LineAt K H v l) : LineAt K H' v l := let ⟨b, e, z⟩ := h; ⟨b, e, Same.tup s z⟩
def MoveAt (K : PySem.W.Frag) (H : Hp) (v : V) (m : Move) : Prop := ∃ a b, v = .ref a ∧ SqT K H a [.str m.1, .ref b] ∧ SqT K H b (m.2.map optV)
theorem MoveAt.mono {K : PySem.W.Frag} {H H' : Hp} {v : V} {l : Move} (s : Same H H') (h : MoveAt K H v l) : MoveAt K H' v l := let ⟨a, b, e, z, y⟩ := h; ⟨a, b, e, Same.tup s z, Same.tup s y⟩
theorem LineAt.upd {K : PySem.W.Frag} {H : Hp} {p : Addr} {ys : List V} {u : HO} {v : V} {l : List (Option Int)} (hp : H p = some (.lst ys)) (h : LineAt K H v l) : LineAt K (upd H p u) v l := let ⟨b, e, z⟩ := h; ⟨b, e, sqT_upd hp lst_nt.1 lst_nt.2 z⟩
theorem MoveAt.upd {K : PySem.W.Frag} {H : Hp} {p : Addr} {ys : List V} {u : HO} {v : V} {l : Move} (hp : H p = some (.lst ys)) (h : MoveAt K H v l) : MoveAt K (upd H p u) v l := let ⟨a, b, e, z, y⟩ := h; ⟨a, b, e, sqT_upd hp lst_nt.1 lst_nt.2 z, sqT_upd hp lst_nt.1 lst_nt.2 y⟩
theorem stepL_len {ls : List (List (Option Int))} {ns : List (Option Int)} (h : ns.length ≤ 4) : (stepL ls ns).length ≤ 4 * ls.length := by
  unfold stepL
  induction ls with
  | nil => simp
  | cons l ls ih =>
    rw [List.flatMap_cons, List.length_append, List.length_map, List.length_cons]
    omega
theorem linesOf_snoc (ns : List (List (Option Int))) (n : List (Option Int)) : linesOf (ns ++ [n]) = stepL (linesOf ns) n := by
  unfold linesOf; rw [List.foldl_append]; rfl
theorem linesOf_len : ∀ {nums : List (List (Option Int))} (k : Nat), nums.length = k → (∀ n ∈ nums, n.length ≤ 4) → (linesOf nums).length ≤ 4 ^ k := by
  intro nums k
  induction k generalizing nums with
  | zero => intro h _; rw [List.length_eq_zero_iff.mp h]; decide
  | succ k ih =>
    intro h h4
    have ne : nums ≠ [] := fun e => by rw [e] at h; simp at h
    rw [← List.dropLast_concat_getLast ne, linesOf_snoc]
    have l1 := ih (nums := nums.dropLast) (by rw [List.length_dropLast]; omega) fun n hn => h4 n (List.dropLast_subset _ hn)
    have l2 := stepL_len (ls := linesOf nums.dropLast) (h4 _ (List.getLast_mem ne))
    rw [Nat.pow_succ]; omega
def Stand (rs : List Rw) (its : List (Option Int)) : Prop := ∀ (i : Nat) (r : Rw), rs[i]? = some r → ∃ z, its[i]? = some (some z) ∧ z ∈ reachL r.2 r.1
end Sd
namespace Sd
open PySem PySem.Spec PyProof.Rows L2
structure SmallR (rs : List Rw) : Prop where
  n4 : rs.length ≤ 4
  w12 : (sysWords rs).length ≤ 12
  nu : ∀ r ∈ rs, ∀ st w, (numbersOf r.2 st w).length ≤ 4
  ll : ∀ r ∈ rs, r.2.length ≤ 1000
structure MovesAt (g : Ga) (H : Hp) (D : Addr) (ms : List Move) : Prop where
  ex : ∃ xs : List V, H D = some (.lst xs) ∧ Paired (MoveAt g.K H) xs ms
theorem MovesAt.mono {g : Ga} {H H' : Hp} {D : Addr} {ms : List Move} (s : Same H H') (h : MovesAt g H D ms) : MovesAt g H' D ms := let ⟨xs, a, b⟩ := h; ⟨xs, s _ _ a, paired_mono (fun _ _ z => z.mono s) b⟩
theorem nums_at {rs : List Rw} {sts : List Int} {w : Str} {i : Nat} {r : Rw} {st : Int} (hr : rs[i]? = some r) (hs : sts[i]? = some st) : (numsAt rs sts w)[i]? = some (numbersOf r.2 st w) := by
  unfold numsAt
  rw [List.getElem?_zipWith, hr, hs]
theorem nums_len {rs : List Rw} {sts : List Int} {w : Str} (h : sts.length = rs.length) : (numsAt rs sts w).length = rs.length := by
  unfold numsAt
  rw [List.length_zipWith, h, Nat.min_self]
theorem nums_4 {rs : List Rw} {sts : List Int} {w : Str} (h : ∀ r ∈ rs, ∀ st w, (numbersOf r.2 st w).length ≤ 4) : ∀ n ∈ numsAt rs sts w, n.length ≤ 4 := by
  unfold numsAt
  induction rs generalizing sts with
  | nil => intro n hn; simp at hn
  | cons r rs ih =>
    cases sts with
    | nil => intro n hn; simp at hn
    | cons st sts =>
      intro n hn
      rw [List.zipWith_cons_cons] at hn
      rcases List.mem_cons.mp hn with e | e
      · rw [e]; exact h r List.mem_cons_self st w
      · exact ih (fun r hr => h r (List.mem_cons_of_mem _ hr)) n e
end Sd
namespace Sd
open PySem PySem.Spec PyProof.Rows L2
end Sd
namespace Sd
open PySem PySem.Spec PyProof.Rows L2
end Sd
namespace Sd
open PySem PySem.Spec PyProof.Rows L2
def StAt (K : PySem.W.Frag) (H : Hp) (v : V) (sts : List Int) : Prop := ∃ b, v = .ref b ∧ H b = some (.tup (sts.map V.int))
theorem StAt.mono {K : PySem.W.Frag} {H H' : Hp} {v : V} {l : List Int} (s : Same H H') (h : StAt K H v l) : StAt K H' v l := let ⟨b, e, z⟩ := h; ⟨b, e, s _ _ z⟩
theorem StAt.upd {K : PySem.W.Frag} {H : Hp} {p : Addr} {ys : List V} {u : HO} {v : V} {l : List Int} (hp : H p = some (.lst ys)) (h : StAt K H v l) : StAt K (upd H p u) v l := let ⟨b, e, z⟩ := h; ⟨b, e, by rw [upd_ne (ne_of z hp (fun y => by cases y))]; exact z⟩
def behAt (rs : List Rw) (sts : List Int) (line : List (Option Int)) (i : Nat) : Int := match line[i]? with
  | some (some k) => (((rs[i]?.map (·.2)).getD [])[k.toNat]?.map (·.2.2)).getD 0
  | _ => sts[i]?.getD 0
def behindOf (rs : List Rw) (sts : List Int) (line : List (Option Int)) : List Int := (List.range rs.length).map (behAt rs sts line)
/-- each hand stands still, or takes a step that leaves its state -/
def ValidL (rs : List Rw) (sts : List Int) (line : List (Option Int)) : Prop := ∀ (i : Nat) (r : Rw) (st : Int), rs[i]? = some r → sts[i]? = some st → line[i]? = some none ∨ ∃ (k : Nat) (s : Step), line[i]? = some (some (k : Int)) ∧ r.2[k]? = some s ∧ s.1 = st
theorem mem_stepL {ls : List (List (Option Int))} {ns : List (Option Int)} {l : List (Option Int)} (h : l ∈ stepL ls ns) : ∃ l' n, l' ∈ ls ∧ n ∈ ns ∧ l = l' ++ [n] := by
  unfold stepL at h
  obtain ⟨l', h', hl⟩ := List.mem_flatMap.mp h
  obtain ⟨n, hn, rfl⟩ := List.mem_map.mp hl
  exact ⟨l', n, h', hn, rfl⟩
theorem mem_lines : ∀ {nums : List (List (Option Int))} (k : Nat), nums.length = k → ∀ l ∈ linesOf nums, l.length = k ∧ ∀ (i : Nat) n, nums[i]? = some n → ∃ o, l[i]? = some o ∧ o ∈ n := by
  intro nums k
  induction k generalizing nums with
  | zero => intro h l hl; rw [List.length_eq_zero_iff.mp h] at hl ⊢; simp [linesOf] at hl; rw [hl]; exact ⟨rfl, fun i n e => by simp at e⟩
  | succ k ih =>
    intro h l hl
    have ne : nums ≠ [] := fun e => by rw [e] at h; simp at h
    have ld : nums.dropLast.length = k := by rw [List.length_dropLast]; omega
    rw [← List.dropLast_concat_getLast ne, linesOf_snoc] at hl
    obtain ⟨l', n, h', hn, rfl⟩ := mem_stepL hl
    obtain ⟨e1, e2⟩ := ih (nums := nums.dropLast) ld l' h'
    refine ⟨by rw [List.length_append, e1]; rfl, fun i m hm => ?_⟩
    rw [← List.dropLast_concat_getLast ne] at hm
    by_cases c : i < k
    · rw [List.getElem?_append_left (by omega)] at hm ⊢
      exact e2 i m hm
    · rw [List.getElem?_append_right (by omega)] at hm ⊢
      have ei : i - nums.dropLast.length = 0 := by
        have := (List.getElem?_eq_some_iff.mp hm).1
        simp at this
        omega
      rw [ei] at hm
      have ei2 : i - l'.length = 0 := by omega
      rw [ei2]
      simp at hm
      exact ⟨n, rfl, by rw [← hm]; exact hn⟩
theorem mem_numbers {L : List Step} {st : Int} {w : Str} {o : Option Int} (h : o ∈ numbersOf L st w) : o = none ∨ ∃ (k : Nat) (s : Step), o = some (k : Int) ∧ L[k]? = some s ∧ s.1 = st := by
  unfold numbersOf at h
  split at h
  · obtain ⟨k, hk, rfl⟩ := List.mem_map.mp h
    unfold hits at hk
    have hf := (List.mem_filter.mp hk).2
    cases e : L[k]? with
    | none => rw [e] at hf; simp at hf
    | some s =>
      rw [e] at hf
      simp only [Option.map_some, Option.getD_some] at hf
      unfold hit at hf
      exact .inr ⟨k, s, rfl, e, of_decide_eq_true (Bool.and_eq_true_iff.mp hf).1⟩
  · exact .inl (List.mem_singleton.mp h)
theorem valid_of {rs : List Rw} {sts : List Int} {m : Move} (h : m ∈ movesOf rs sts) (sl : sts.length = rs.length) : m.2.length = rs.length ∧ ValidL rs sts m.2 := by
  unfold movesOf at h
  obtain ⟨w, hw, hm⟩ := List.mem_flatMap.mp h
  unfold movesW at hm
  obtain ⟨l, hl, rfl⟩ := List.mem_map.mp hm
  obtain ⟨e1, e2⟩ := mem_lines _ (nums_len (w := w) sl) l hl
  refine ⟨e1, fun i r st hr hst => ?_⟩
  obtain ⟨o, ho, mo⟩ := e2 i _ (nums_at hr hst)
  rcases mem_numbers mo with z | ⟨k, s, z, y⟩
  · exact .inl (by rw [← z]; exact ho)
  · exact .inr ⟨k, s, by rw [← z]; exact ho, y⟩
structure StandI (rs : List Rw) (sts : List Int) : Prop where
  len : sts.length = rs.length
  st : Stand rs (sts.map some)
theorem stand_start (rs : List Rw) : StandI rs (rs.map (·.1)) := ⟨by rw [List.length_map], fun i r hr => ⟨r.1, by rw [List.getElem?_map, List.getElem?_map, hr]; rfl, mem_reachL.mpr .base⟩⟩
theorem stand_behind {rs : List Rw} {sts : List Int} {line : List (Option Int)} (h : StandI rs sts) (v : ValidL rs sts line) : StandI rs (behindOf rs sts line) := by
  refine ⟨by unfold behindOf; rw [List.length_map, List.length_range], fun i r hr => ⟨behAt rs sts line i, ?_, ?_⟩⟩
  · have il := (List.getElem?_eq_some_iff.mp hr).1
    unfold behindOf
    rw [List.getElem?_map, List.getElem?_map, List.getElem?_range il]; rfl
  · obtain ⟨z, hz, m⟩ := h.st i r hr
    obtain ⟨st, hst, e⟩ : ∃ st, sts[i]? = some st ∧ some st = some z := by
      rw [List.getElem?_map] at hz
      cases e : sts[i]? with
      | none => rw [e] at hz; cases hz
      | some st => rw [e] at hz; exact ⟨st, rfl, by simpa using hz⟩
    cases e
    rcases v i r z hr hst with hn | ⟨k, s, hk, hs, es⟩
    · unfold behAt; rw [hn, hst]; exact m
    · have e : behAt rs sts line i = s.2.2 := by unfold behAt; rw [hk, hr]; simp [hs]
      rw [e]
      have sm : s ∈ r.2 := List.mem_of_getElem? hs
      exact mem_reachL.mpr (.step (x := z) (w := s.2.1) (mem_reachL.mp m) (by rw [← es]; exact sm))
structure WalkOk (rs : List Rw) (ps : List (List Int)) (ms : List Move) : Prop where
  len : ps.length = ms.length + 1
  st : ∀ p ∈ ps, StandI rs p
  mv : ∀ (k : Nat) m p, ms[k]? = some m → ps[k]? = some p → m ∈ movesOf rs p
  hd : ps[0]? = some (rs.map (·.1))
  nx : ∀ (k : Nat) m p, ms[k]? = some m → ps[k]? = some p → ps[k + 1]? = some (behindOf rs p m.2)
theorem WalkOk.snoc {rs : List Rw} {ps : List (List Int)} {ms : List Move} {p : List Int} {m : Move} (h : WalkOk rs ps ms) (hp : ps.getLast? = some p) (hm : m ∈ movesOf rs p) : WalkOk rs (ps ++ [behindOf rs p m.2]) (ms ++ [m]) := by
  have pin : p ∈ ps := List.mem_of_getLast? hp
  have sp := h.st p pin
  have hl := h.len
  refine ⟨by simp [hl], fun p' hp' => ?_, fun k m' p' hk hk' => ?_, by rw [List.getElem?_append_left (by omega)]; exact h.hd, fun k m' p' hk hk' => ?_⟩
  · rcases List.mem_append.mp hp' with z | z
    · exact h.st p' z
    · rw [List.mem_singleton.mp z]; exact stand_behind sp (valid_of hm sp.len).2
  · by_cases c : k < ms.length
    · rw [List.getElem?_append_left c] at hk
      rw [List.getElem?_append_left (by omega)] at hk'
      exact h.mv k m' p' hk hk'
    · have ek : k = ms.length := by
        have := (List.getElem?_eq_some_iff.mp hk).1
        simp at this
        omega
      subst ek
      rw [List.getElem?_append_right (Nat.le_refl _), Nat.sub_self] at hk
      rw [List.getElem?_append_left (by omega)] at hk'
      rw [List.getLast?_eq_getElem?, hl, Nat.add_sub_cancel] at hp
      rw [hp] at hk'
      cases hk'
      have em : m = m' := by simpa using hk
      rw [← em]; exact hm
  · by_cases c : k < ms.length
    · rw [List.getElem?_append_left c] at hk
      rw [List.getElem?_append_left (by omega)] at hk'
      rw [List.getElem?_append_left (by omega)]
      exact h.nx k m' p' hk hk'
    · have ek : k = ms.length := by
        have := (List.getElem?_eq_some_iff.mp hk).1
        simp at this
        omega
      subst ek
      rw [List.getElem?_append_right (Nat.le_refl _), Nat.sub_self] at hk
      rw [List.getElem?_append_left (by omega)] at hk'
      rw [List.getLast?_eq_getElem?, hl, Nat.add_sub_cancel] at hp
      rw [hp] at hk'
      cases hk'
      have em : m = m' := by simpa using hk
      rw [← em, List.getElem?_append_right (by omega), hl, Nat.sub_self]; rfl
end Sd
namespace Sd
open PySem PySem.Spec PyProof.Rows L2
structure WalkAt (g : Ga) (H0 H : Hp) (rs : List Rw) (pl : Addr) (u : V) (rt : Addr) (ms : List Move) (ps : List (List Int)) : Prop where
  sm : Same H0 H
  ex : ∃ (p : List Int) (us xs : List V), StAt g.K H u p ∧ ps.getLast? = some p ∧ SqT g.K H rt us ∧ Paired (MoveAt g.K H) us ms ∧ H pl = some (.lst xs) ∧ Paired (StAt g.K H) xs ps
  ok : WalkOk rs ps ms
theorem WalkAt.mono {g : Ga} {H0 H H' : Hp} {rs : List Rw} {pl rt : Addr} {u : V} {ms : List Move} {ps : List (List Int)} (s : Same H H') (h : WalkAt g H0 H rs pl u rt ms ps) : WalkAt g H0 H' rs pl u rt ms ps := by
  obtain ⟨p, us, xs, h1, h2, h3, h4, h5, h6⟩ := h.ex
  exact ⟨h.sm.trans s, ⟨p, us, xs, h1.mono s, h2, Same.tup s h3, paired_mono (fun _ _ z => z.mono s) h4, s _ _ h5, paired_mono (fun _ _ z => z.mono s) h6⟩, h.ok⟩
end Sd
namespace Sd
open PySem PySem.Spec PyProof.Rows L2
mutual
/-- v is the key k -/
inductive NK (K : PySem.W.Frag) (H : Hp) : NestedKey → V → Prop
  | none : NK K H .none .non
  | bl (b : Bool) : NK K H (.num (if b = true then 1 else 0)) (.bl b)
  | int (i : Int) : NK K H (.num i) (.int i)
  | str (x : Str) : NK K H (.text x) (.str x)
  | tup {a : Addr} {vs : List V} {ks : List NestedKey} : SqT K H a vs → NKs K H ks vs → NK K H (.tup ks) (.ref a)
inductive NKs (K : PySem.W.Frag) (H : Hp) : List NestedKey → List V → Prop
  | nil : NKs K H [] []
  | cons {k : NestedKey} {v : V} {ks : List NestedKey} {vs : List V} : NK K H k v → NKs K H ks vs → NKs K H (k :: ks) (v :: vs)
end
section
variable {X : Cx} {pins : List (Addr × Obj)} {σ : L2.St} {H : Hp} {s : Shared}
mutual
theorem NK.is (I : Inv X pins σ H s) : ∀ {k : NestedKey} {v : V} {u : Value}, NK X.K H k v → RelV v u → NestedIs s.heap k u
  | _, _, _, .none, r => by cases r; exact .none
  | _, _, _, .bl b, r => by cases r; exact .bool rfl
  | _, _, _, .int i, r => by obtain ⟨t, rfl⟩ := r; exact .int i t
  | _, _, _, .str x, r => by obtain ⟨t, rfl⟩ := r; exact .text x t
  | _, _, _, .tup h hs, r => by
    cases r
    obtain ⟨its, rs, ⟨o, e1, e2, n, e3⟩, _⟩ := I.tuple h
    exact .tup e1 e2 e3 (by simpa using NKs.is I hs rs)
theorem NKs.is (I : Inv X pins σ H s) : ∀ {ks : List NestedKey} {vs : List V} {us : List Value}, NKs X.K H ks vs → Vals vs us → NestedAll s.heap ks us
  | _, _, _, .nil, r => by cases r; exact .nil
  | _, _, _, .cons h hs, r => by
    cases r with
    | cons q t => exact .cons (NK.is I h q) (NKs.is I hs t)
end
mutual
theorem NK.mono {K : PySem.W.Frag} {H H' : Hp} (s : Same H H') : ∀ {k : NestedKey} {v : V}, NK K H k v → NK K H' k v
  | _, _, .none => .none
  | _, _, .bl b => .bl b
  | _, _, .int i => .int i
  | _, _, .str x => .str x
  | _, _, .tup h hs => .tup (Same.tup s h) (NKs.mono s hs)
theorem NKs.mono {K : PySem.W.Frag} {H H' : Hp} (s : Same H H') : ∀ {ks : List NestedKey} {vs : List V}, NKs K H ks vs → NKs K H' ks vs
  | _, _, .nil => .nil
  | _, _, .cons h hs => .cons (NK.mono s h) (NKs.mono s hs)
end
end
abbrev NE := NestedKey × Addr × Value
/-- the key k stands at b -/
def KeyIn (K : PySem.W.Frag) (H : Hp) (k : NestedKey) (b : Addr) : Prop := NK K H k (.ref b) ∧ k.depth ≤ 8
theorem KeyIn.mono {K : PySem.W.Frag} {H H' : Hp} {k : NestedKey} {b : Addr} (s : Same H H') (h : KeyIn K H k b) : KeyIn K H' k b := ⟨h.1.mono s, h.2⟩
/-- a dict of these entries -/
structure DObj (w : World) (o : Obj) (es : List NE) : Prop where
  ex : o.ExactDict
  dt : ∃ ds ep, o.data = .dict ds ep ∧ ∀ P : Program, ds.toList = es.map (entryOfKey (nestedKind P w))
  nd : (es.map (·.1)).Nodup
  sz : es.length ≤ sizeLine
/-- the object o at a -/
def DO (a : Addr) (o : Obj) : HO := .ext fun h => h.get? a = some o
section
variable {X : Cx} {pins : List (Addr × Obj)} {σ : L2.St} {H : Hp} {s : Shared} {a : Addr} {o : Obj} {es : List NE}
theorem do_get (I : Inv X pins σ H s) (e : H a = some (DO a o)) : s.heap.get? a = some o := (I.hok a _ e).1
theorem do_dict (I : Inv X pins σ H s) (e : H a = some (DO a o)) (d : DObj X.w o es) (hk : ∀ x ∈ es, KeyIn X.K H x.1 x.2.1) : s.heap.DictOfH (nestedKind X.prog X.w) a es := by
  obtain ⟨ds, ep, h1, h2⟩ := d.dt
  exact ⟨o, ds, ep, do_get I e, d.ex, h1, h2 X.prog, fun x hx => ⟨(hk x hx).1.is I rfl, (hk x hx).2⟩, d.nd⟩
theorem do_raw (I : Inv X pins σ H s) (e : H a = some (DO a o)) (d : DObj X.w o es) : ∃ ds ep, s.heap.DictRaw a ds ep ∧ o.data = .dict ds ep ∧ ds.size = es.length ∧ ∀ i (hi : i < ds.size), ∃ y, es[i]? = some y ∧ ds[i].key = .ref y.2.1 ∧ ds[i].val = y.2.2 := by
  obtain ⟨ds, ep, h1, h2⟩ := d.dt
  have h3 := h2 X.prog
  have hs := size_of_entries h3
  refine ⟨ds, ep, ⟨o, do_get I e, d.ex, h1⟩, h1, hs, fun i hi => ?_⟩
  have hx : i < es.length := hs ▸ hi
  have q := entry_at h3 i
  rw [Array.getElem?_eq_getElem hi, List.getElem?_eq_getElem hx, Option.map_some] at q
  have q' := Option.some.inj q
  exact ⟨es[i], List.getElem?_eq_getElem hx, by rw [q']; rfl, by rw [q']; rfl⟩
theorem DObj.of {P : Program} {w : World} {h : Heap} {xs : List NE} (hx : h.DictOfH (nestedKind P w) a xs) (hz : xs.length ≤ sizeLine) : ∃ o, h.get? a = some o ∧ DObj w o xs := by
  obtain ⟨o, ds, ep, h1, h2, h3, h4, _, h6⟩ := hx
  exact ⟨o, h1, h2, ⟨ds, ep, h3, fun P' => h4⟩, h6, hz⟩
/-- what is asked of a dict at a -/
structure DAt (K : PySem.W.Frag) (w : World) (H : Hp) (a : Addr) (o : Obj) (es : List NE) : Prop where
  at_ : H a = some (DO a o)
  sm : (a == sysModules) = false
  ob : DObj w o es
  ks : ∀ x ∈ es, KeyIn K H x.1 x.2.1
/-- d[k] -/
def rIxN (K : PySem.W.Frag) (w : World) : R2 := fun x y H Q => ∃ a b o es k p v, x = .ref a ∧ y = .ref b ∧ DAt K w H a o es ∧ KeyIn K H k b ∧ atKey es k = some p ∧ RelV v p.2 ∧ Q v H
theorem room8 {A : Around} {k : Nat} (hr : Room k A) : (nestedKind X.prog X.w).room A.in1 := by
  have := hr.un
  show A.units + 1 + 8 < cLine
  omega
theorem ixN_get {x y v' : V} {k : Nat} {A : Around} {E : Value → Shared → Prop} {Q : Value → Shared → Prop} {b : Addr} {kk : NestedKey} {p : Addr × Value} (hr : Room k A) (I : Inv X pins σ H s) (d : DAt X.K X.w H a o es) (hk : KeyIn X.K H kk b) (hp : atKey es kk = some p) (h : ∀ s', Inv X pins σ H s' → Q p.2 s') :
    wpAny (model X.prog X.w) A (getItem (.ref a) (.ref b)) Q E s :=
  wpAny_getItem_heap (room8 hr) ⟨hk.1.is I rfl, hk.2⟩ (do_dict I d.at_ d.ob d.ks) hp (h _ (I.tok _))
theorem do_type (I : Inv X pins σ H s) (d : DAt X.K X.w H a o es) : s.TypeIs (.ref a) "dict" := ⟨o, do_get I d.at_, d.ob.ex.1⟩
theorem ix_N {k : Nat} (hr : Room k X.A) : IxR X (rIxN X.K X.w) := by
  intro value slice pins s σ H x y v u Q I rx ry h hs
  obtain ⟨a, b, o, es, kk, p, z, rfl, rfl, d, hk, hp, rz, q⟩ := h
  cases rx; cases ry
  have hT := do_type I d
  unfold subscriptTail
  refine wpAny_bind ?_
  rw [getitemInPython_of_ne hT.not_modules]
  refine wpAny_bind (wpAny_specialOf hT PySem.F.slot_dict_getitem.lookup ?_)
  have fin : wpAny (model X.prog X.w) X.A (subscripted slice false (.ref a) (.ref b)) (fun r s₃ => wpAny (model X.prog X.w) X.A (letTemporaryGo value (.ref a) r >>= fun _ => pure r) (EP X pins σ Q) X.xe s₃) X.xe s := by
    rw [hs]
    exact wpAny_operating (ixN_get (x := .non) (y := .non) (v' := .non) hr I d hk hp fun s' I' => wpAny_bind (wpAny_letTemporaryGo (wpAny_pure ⟨z, H, I', rz, q⟩)))
  first
    | exact wpAny_pure (wpAny_bind fin)
    | exact wpAny_bind (wpAny_pure (wpAny_bind fin))
    | exact wpAny_bind fin
/-- k in d, k not in d -/
def rInN (K : PySem.W.Frag) (w : World) (neg : Bool) : R2 := fun x y H Q => ∃ a b o es k, x = .ref b ∧ y = .ref a ∧ DAt K w H a o es ∧ KeyIn K H k b ∧ Q (.bl (if neg then !(atKey es k).isSome else (atKey es k).isSome)) H
theorem valAt_pairs (es : List NE) (k : NestedKey) : (valueAt (pairsH es) k).isSome = (atKey es k).isSome := by rw [valueAt_pairsH, Option.isSome_map]
theorem o_inN {k : Nat} (hr : Room k X.A) : OpR X (compareOp .In) (rInN X.K X.w false) := by
  intro pins s σ H x y v u Q I rx ry h
  obtain ⟨a, b, o, es, kk, rfl, rfl, d, hk, q⟩ := h
  cases rx; cases ry
  refine in_keyed (room8 hr) ⟨hk.1.is I rfl, hk.2⟩ d.sm ⟨es, do_dict I d.at_ d.ob d.ks, rfl⟩ ?_
  rw [valAt_pairs]
  exact ⟨.bl (atKey es kk).isSome, H, I.tok _, rfl, q⟩
theorem o_notInN {k : Nat} (hr : Room k X.A) : OpR X (compareOp .NotIn) (rInN X.K X.w true) := by
  intro pins s σ H x y v u Q I rx ry h
  obtain ⟨a, b, o, es, kk, rfl, rfl, d, hk, q⟩ := h
  cases rx; cases ry
  refine notIn_keyed (room8 hr) ⟨hk.1.is I rfl, hk.2⟩ d.sm ⟨es, do_dict I d.at_ d.ob d.ks, rfl⟩ ?_
  rw [valAt_pairs]
  exact ⟨.bl (!(atKey es kk).isSome), H, I.tok _, rfl, q⟩
/-- len(d) -/
def rLenN (K : PySem.W.Frag) (w : World) : List V → Hp → VK → Prop := fun xs H Q => ∃ a o es, xs = [.ref a] ∧ DAt K w H a o es ∧ Q (.int ((es.length : Nat) : Int)) H
theorem call_lenN : CallR X (.builtin "len") (rLenN X.K X.w) := by
  intro pins s σ H xs us Q I r h
  obtain ⟨a, o, es, rfl, d, q⟩ := h
  rw [Vals.ref1 r]
  have z := d.ob.sz
  refine call_len_dictH d.sm (do_dict I d.at_ d.ob d.ks) (by rw [sizeLine_eq] at z; omega) ?_
  exact ⟨.int ((es.length : Nat) : Int), H, I.tok _, ⟨_, rfl⟩, q⟩
/-- if d -/
def rTruN (K : PySem.W.Frag) (w : World) : V → Hp → (Bool → Hp → Prop) → Prop := fun x H Q => ∃ a o es, x = .ref a ∧ DAt K w H a o es ∧ Q (!es.isEmpty) H
theorem tru_dictH {A : Around} {E : Value → Shared → Prop} {d : Addr} {xs : List NE} {P : Program} {w : World} {Q : Bool → Shared → Prop} (hd : (d == sysModules) = false) (hm : s.heap.DictOfH (nestedKind P w) d xs) (fit : (xs.length : Int) < 2 ^ 63)
    (h : Q (!xs.isEmpty) { s with toks := s.toks + 1 + 1 }) : wpAny (model P w) A (truthy (.ref d)) Q E s := by
  have nz : ((xs.length : Int) != 0) = !xs.isEmpty := by cases xs <;> simp <;> omega
  have run : wpAny (model P w) A (runValue (.builtin "len" ⟨[.ref d], []⟩)) (fun r s' => r = .int xs.length (s.toks + 1) ∧ Q (!xs.isEmpty) s') E s := by
    refine wpAny_runValue (codeAny_builtin entry_len ?_)
    rw [Around.under_plainId plain_len _]
    refine wpAny_mono (wpAny_len_body_dictH (Q := fun r s' => r = .int xs.length (s.toks + 1) ∧ Q (!xs.isEmpty) s') hd hm fit ⟨rfl, h⟩) (fun fin s' z => ?_) fun _ _ e => e
    obtain ⟨r, rfl, hq⟩ := z
    exact hq
  unfold truthy
  first
    | refine wpAny_bind (wpAny_callSpecial?_none (name := Str.ofString "__bool__") hm.typeIs noBool_dict ?_)
    | refine wpAny_bind (wpAny_pure (wpAny_bind (wpAny_callSpecial?_none (name := Str.ofString "__bool__") hm.typeIs noBool_dict ?_)))
  first
    | refine wpAny_bind (wpAny_specialOf (name := Str.ofString "__len__") hm.typeIs F.slot_dict_len.lookup ?_)
    | refine wpAny_bind (wpAny_pure (wpAny_bind (wpAny_specialOf (name := Str.ofString "__len__") hm.typeIs F.slot_dict_len.lookup ?_)))
  first
    | exact wpAny_bind (wpAny_mono run (fun r s' z => by obtain ⟨rfl, hq⟩ := z; exact wpAny_pure (nz ▸ hq)) fun _ _ e => e)
    | exact wpAny_bind (wpAny_pure (wpAny_bind (wpAny_mono run (fun r s' z => by obtain ⟨rfl, hq⟩ := z; exact wpAny_pure (nz ▸ hq)) fun _ _ e => e)))
theorem tru_N : TruR X (rTruN X.K X.w) := by
  intro pins s σ H x v Q I rx h
  obtain ⟨a, o, es, rfl, d, q⟩ := h
  cases rx
  have z := d.ob.sz
  exact tru_dictH d.sm (do_dict I d.at_ d.ob d.ks) (by rw [sizeLine_eq] at z; omega) ⟨H, I.tok _, q⟩
def Itn (a : Addr) (o : Obj) (es : List NE) : It :=
  ⟨fun i H => H a = some (DO a o) ∧ i < es.length, fun i H x H' => H' = H ∧ ∃ e, es[i]? = some e ∧ x = .ref e.2.1, fun i H => H a = some (DO a o) ∧ es.length ≤ i⟩
theorem turn_keysN {P : Program} {w : World} {K : PySem.W.Frag} {tg : Expr} {ds : Array DictEntry} {ep : Nat} (it : Addr) (dt : o.data = .dict ds ep) (ex : o.ExactDict) (sz : ds.size = es.length) (hk : ∀ i (hi : i < ds.size), ∃ y, es[i]? = some y ∧ ds[i].key = .ref y.2.1 ∧ ds[i].val = y.2.2) :
    Turn P w K tg (Itn a o es) [it] it (fun i h => h.IsKeyIter it a i es.length ep) where
  mem := List.mem_singleton.mpr rfl
  obj := fun i h st b hb => by
    rw [List.mem_singleton.mp hb]
    obtain ⟨oi, e, c, dd⟩ := st
    exact ⟨oi, e, fun v z => nomatch dd.symm.trans z⟩
  keep := fun i h h' st k => st.at fun oi e => k it (List.mem_singleton.mpr rfl) oi e
  item := by
    intro X hP hw hK hc i pins s σ H E I hf st hg
    subst hP hw hK
    obtain ⟨f0, f1, f2, f3, f4, f5⟩ := hf it (List.mem_singleton.mpr rfl)
    have hi : i < ds.size := by rw [sz]; exact hg.2
    obtain ⟨y, hy, e1, _⟩ := hk i hi
    refine next_key_item st (do_get I hg.1) dt sz (Array.getElem?_eq_getElem hi) fun h' st' sb => ?_
    have J : Inv X pins σ H { s with heap := h' } := I.turned (t' := s.toks) (fun b ob hb e => (sb.2 b hb).trans e) f0 f1 f3 f4 f5
    obtain ⟨oi, e, c, dd⟩ := id st'
    exact ⟨ds[i].key, rfl, go_of (s := { s with heap := h' }) e c dd (by decide) ⟨.ref y.2.1, H, J, e1, ⟨rfl, y, hy, rfl⟩, st', fun b hb => (hf b hb).1⟩⟩
  done := by
    intro X hP hw hK hc i pins s σ H E I hf st hg
    subst hP hw hK
    obtain ⟨f0, f1, f2, f3, f4, f5⟩ := hf it (List.mem_singleton.mpr rfl)
    exact next_key_end (I.ok.hd hc) st (do_get I hg.1) dt sz hg.2 fun h' eb => ⟨rfl, I.turned (t' := s.toks) (fun b ob hb e => eb b ob hb e) f0 f1 f3 f4 f5⟩
  self := fun A i s Q E st h => wpAny_pyIter_keyiter st h
def iKeysN (K : PySem.W.Frag) (w : World) (td : TE) : TI := fun σ H R => td σ H fun x H1 => ∃ a o es, x = .ref a ∧ DAt K w H1 a o es ∧ R (Itn a o es) H1
theorem pi_keysN {tg e : Expr} {td : TE} (he : PE X e td) : PI X tg e (iKeysN X.K X.w td) := by
  refine ⟨fun pins s σ H R I h => thn (he.run pins s σ H _ I h) fun u s1 ⟨x, H1, I1, rx, a, o, es, ex, d, q⟩ => ?_⟩
  subst ex
  cases rx
  obtain ⟨ds, ep, _, dt, sz, hk⟩ := do_raw I1 d.at_ d.ob
  refine iter_keys d.sm (do_get I1 d.at_) d.ob.ex dt (pi_one (tk := s1.toks) I1 _ (turn_keysN _ dt d.ob.ex sz hk) ⟨_, Heap.get?_push_size _ rfl, rfl, ?_⟩ q)
  rw [sz] <;> rfl
/-- list(d) -/
def rListN (K : PySem.W.Frag) (w : World) : List V → Hp → VK → Prop := fun xs H Q => ∃ a o es, xs = [.ref a] ∧ DAt K w H a o es ∧ ∀ p, H p = none → Q (.ref p) (upd H p (.lst (es.map fun e => .ref e.2.1)))
theorem valsRef : ∀ es : List NE, Vals (es.map fun e => V.ref e.2.1) (es.map fun e => Value.ref e.2.1)
  | [] => .nil
  | _ :: r => .cons rfl (valsRef r)
theorem call_listN (hc : X.calm = true) : CallR X (.type "list") (rListN X.K X.w) := by
  intro pins s σ H xs us Q I r h
  obtain ⟨a, o, es, rfl, d, q⟩ := h
  rw [Vals.ref1 r]
  obtain ⟨ds, ep, _, dt, sz, hk⟩ := do_raw I d.at_ d.ob
  have z := d.ob.sz
  refine PySem.W.kdl_call (kdl_raw d.sm d.ob.ex dt) (I.ok.hd hc) (do_get I d.at_) (by omega) fun h' tk acc' c' kp e it => ?_
  have ea : acc'.toList = es.map fun x => Value.ref x.2.1 := by
    have hl : acc'.toList.length = es.length := by rw [Array.length_toList, it.1]; exact sz
    refine List.ext_getElem? fun j => ?_
    by_cases hj : j < es.length
    · have ja : j < acc'.size := by rw [it.1, sz]; exact hj
      obtain ⟨en, hen, hv⟩ := it.2 j acc'[j] (Array.getElem?_eq_getElem ja)
      have jd : j < ds.size := by rw [sz]; exact hj
      obtain ⟨y, hy, e1, _⟩ := hk j jd
      rw [Array.getElem?_eq_getElem jd] at hen
      rw [List.getElem?_map, hy, Array.getElem?_toList, Array.getElem?_eq_getElem ja, hv, ← Option.some.inj hen, e1]; rfl
    · rw [List.getElem?_eq_none (by omega), List.getElem?_eq_none (by rw [List.length_map]; omega)]
  refine ⟨.ref s.heap.objs.size, _, I.laid (t' := tk) (o := .lst (es.map fun e => .ref e.2.1)) kp (Nat.le_refl _) ?_, rfl, q _ (I.hok.fresh (Nat.le_refl _))⟩
  refine ⟨by rw [List.length_map]; exact z, acc'.toList, c', ?_, by rw [Array.toArray_toList]; exact e⟩
  rw [ea]; exact valsRef es
end
end Sd
namespace Sd
open PySem PySem.Spec PyProof.Rows L2
section
variable {X : Cx}
def tTru2 (K : PySem.W.Frag) (w : World) (ta : TE) : TT := fun σ H Q => ta σ H fun x H' => (∃ k, TruV K x H' k ∧ Q k H') ∨ rTruN K w x H' Q
theorem tru_2 : TruR X (fun x H Q => (∃ k, TruV X.K x H k ∧ Q k H) ∨ rTruN X.K X.w x H Q) := fun pins s σ H x v Q I rx h => h.elim (tru_ok pins s σ H x v Q I rx) (tru_N pins s σ H x v Q I rx)
theorem p_truth2 {a : Expr} {ta : TE} (ha : PE X a ta) (he : ∀ whole, isTrue a X.env whole = (do let v ← whole; standAt a.pos; holding [v] (truthy v)) := by intro _; rfl) : PT X a (tTru2 X.K X.w ta) := pt_truthR ha tru_2 he
def rIx2 (K : PySem.W.Frag) (w : World) : R2 := fun x y H Q => rIx K x y H Q ∨ rIxN K w x y H Q
theorem ix_2 {k : Nat} (hr : Room k X.A) : IxR X (rIx2 X.K X.w) := IxR.or ix_seq (ix_N hr)
def iSeq2 (K : PySem.W.Frag) (w : World) (te : TE) : TI := fun σ H R => iSeq K te σ H R ∨ iKeysN K w te σ H R
theorem pi_seq2 {tg l : Expr} {te : TE} (h : PE X l te) : PI X tg l (iSeq2 X.K X.w te) := PI.or (pi_seq h) (pi_keysN h)
def rLen2 (K : PySem.W.Frag) (w : World) : List V → Hp → VK → Prop := fun xs H Q => rLen K xs H Q ∨ rLenN K w xs H Q
theorem CallR.or2 {f : Value} {r1 r2 : List V → Hp → VK → Prop} (h1 : CallR X f r1) (h2 : CallR X f r2) : CallR X f (fun x H Q => r1 x H Q ∨ r2 x H Q) := fun pins s σ H x v Q I rx h => h.elim (h1 pins s σ H x v Q I rx) (h2 pins s σ H x v Q I rx)
theorem call_len2 : CallR X (.builtin "len") (rLen2 X.K X.w) := CallR.or2 call_len call_lenN
def rListS2 (K : PySem.W.Frag) (w : World) : List V → Hp → VK → Prop := fun xs H Q => rListS K xs H Q ∨ rListN K w xs H Q
theorem call_list2 (hc : X.calm = true) : CallR X (.type "list") (rListS2 X.K X.w) := CallR.or2 call_list_of (call_listN hc)
end
end Sd
namespace Sd
open PySem PySem.Spec PyProof.Rows L2
end Sd
namespace Sd
open PySem PySem.Spec PyProof.Rows L2
def lcgT (m : Nat) : Nat → Nat → Nat
  | 0, x => x
  | k + 1, x => lcgT m k ((x * 5 + 1) % (m + 1))
def lcgB (m : Nat) : Nat → Nat → Nat → Nat
  | 0, _, acc => acc
  | f + 1, x, acc => lcgB m f ((x * 5 + 1) % (m + 1)) (acc ||| 2 ^ x)
theorem lcgT_back (m : Nat) : ∀ k x, lcgT m (k + 1) x = (lcgT m k x * 5 + 1) % (m + 1)
  | 0, _ => rfl
  | k + 1, x => lcgT_back m k ((x * 5 + 1) % (m + 1))
theorem lcgT_add (m : Nat) : ∀ a b x, lcgT m (a + b) x = lcgT m b (lcgT m a x)
  | 0, b, x => by rw [Nat.zero_add]; rfl
  | a + 1, b, x => by
    rw [Nat.add_right_comm]
    exact lcgT_add m a b _
theorem lcgI_T (m i : Nat) : ∀ k, lcgI m i k = lcgT m k i
  | 0 => rfl
  | k + 1 => by
    rw [lcgT_back, ← lcgI_T m i k]; rfl
theorem lcgB_bit (m j : Nat) : ∀ f x acc, (lcgB m f x acc).testBit j = true → acc.testBit j = true ∨ ∃ k, k < f ∧ lcgT m k x = j
  | 0, x, acc, h => .inl h
  | f + 1, x, acc, h => by
    rcases lcgB_bit m j f _ _ h with q | ⟨k, hk, e⟩
    · rw [Nat.testBit_or, Bool.or_eq_true] at q
      rcases q with q | q
      · exact .inl q
      · rw [Nat.testBit_two_pow] at q
        exact .inr ⟨0, Nat.succ_pos _, of_decide_eq_true q⟩
    · exact .inr ⟨k + 1, Nat.succ_lt_succ hk, e⟩
/-- masks up to 2047 -/
def MaskN (m : Nat) : Prop := m = 7 ∨ m = 31 ∨ m = 127 ∨ m = 511 ∨ m = 2047
theorem lcg_facts {m : Nat} (h : MaskN m) : lcgB m (m + 1) 0 0 = 2 ^ (m + 1) - 1 ∧ lcgT m (m + 1) 0 = 0 := by
  rcases h with e | e | e | e | e <;> subst e <;> decide +kernel
theorem lcg_hit {m : Nat} (h : MaskN m) {j : Nat} (hj : j ≤ m) : ∃ b, b ≤ m ∧ lcgT m b 0 = j := by
  have q : (lcgB m (m + 1) 0 0).testBit j = true := by
    rw [(lcg_facts h).1, Nat.testBit_two_pow_sub_one]
    exact decide_eq_true (Nat.lt_succ_of_le hj)
  rcases lcgB_bit m j _ _ _ q with z | ⟨k, hk, e⟩
  · rw [Nat.zero_testBit] at z; cases z
  · exact ⟨k, Nat.le_of_lt_succ hk, e⟩
theorem lcg_any {m : Nat} (h : MaskN m) {i j : Nat} (hi : i ≤ m) (hj : j ≤ m) : ∃ k, k ≤ m ∧ lcgI m i k = j := by
  obtain ⟨a, ha, ea⟩ := lcg_hit h hi
  obtain ⟨b, hb, eb⟩ := lcg_hit h hj
  by_cases c : a ≤ b
  · refine ⟨b - a, by omega, ?_⟩
    rw [lcgI_T, ← ea, ← lcgT_add, Nat.add_sub_of_le c, eb]
  · refine ⟨m + 1 + b - a, by omega, ?_⟩
    rw [lcgI_T, ← ea, ← lcgT_add, show a + (m + 1 + b - a) = (m + 1) + b by omega, lcgT_add, (lcg_facts h).2, eb]
theorem meetN {m : Nat} (hm : MaskN m) (h : Int) {j : Nat} (hj : j ≤ m) : ∃ n, n ≤ m + 12 ∧ runI m (SetTable.bits h) n = j := by
  obtain ⟨k, hk, e⟩ := lcg_any hm (runI_le m (SetTable.bits h) 12) hj
  refine ⟨12 + k, by omega, ?_⟩
  rw [runI_tail (bits_lt h), e]
theorem seenN {m : Nat} (hm : MaskN m) (h : Int) {j : Nat} (hj : j ≤ m) : ∃ k, k < 10 * SetTable.turns m ∧ way m h k = j := by
  obtain ⟨n, hn, e⟩ := meetN hm h hj
  obtain ⟨k, hk, e2⟩ := run_nth m (SetTable.bits h) n
  refine ⟨k, ?_, ?_⟩
  · unfold SetTable.turns; omega
  · show (nth m _ k).j = j
    rw [e2]; exact e
theorem wayN_le {m : Nat} {h : Int} {k : Nat} : way m h k ≤ m := by
  have i1 : SetTable.bits h % (m + 1) ≤ m := Nat.le_of_lt_succ (Nat.mod_lt _ (Nat.succ_pos _))
  have r := runEnd_bd i1
  have q := nth_in (m := m) k (runAt m (SetTable.bits h % (m + 1)) (SetTable.bits h)) (by
    have : SetTable.bits h % (m + 1) + (SetTable.runEnd m (SetTable.bits h % (m + 1)) - SetTable.bits h % (m + 1)) ≤ m := by omega
    exact this)
  exact Nat.le_trans (Nat.le_add_right _ _) q
structure TabN (t : SetTable) (hs : List Int) : Prop where
  ris : Ris t.place.toList
  dm : t.dummies = #[]
  sz : t.place.size = hs.length
  mok : MaskN t.mask
  bd : ∀ x ∈ t.place.toList, x ≤ t.mask
  re : ∀ (i : Nat) (h : Int) (j : Nat), hs[i]? = some h → t.place.toList[i]? = some j → ∃ k, way t.mask h k = j ∧ ∀ k', k' < k → way t.mask h k' ∈ t.place.toList
section
variable {t : SetTable} {hs : List Int}
theorem TabN.empty (T : TabN t hs) (few : hs.length ≤ t.mask) (h : Int) : ∃ K, K < 10 * SetTable.turns t.mask ∧ way t.mask h K ∉ t.place.toList ∧ ∀ k, k < K → way t.mask h k ∈ t.place.toList := by
  obtain ⟨j, hj, hn⟩ := st_missing t.place.toList (t.mask + 1) (by rw [Array.length_toList, T.sz]; omega)
  obtain ⟨k, hk, e⟩ := seenN T.mok h (Nat.le_of_lt_succ hj)
  obtain ⟨K, k1, k2, k3⟩ := st_least (p := fun k => way t.mask h k ∉ t.place.toList) k (fun z => hn (e ▸ z))
  exact ⟨K, Nat.lt_of_le_of_lt k1 hk, k2, fun k' hk' => Classical.byContradiction fun c => k3 k' hk' c⟩
theorem TabN.ahead (T : TabN t hs) {h : Int} {K i j : Nat} (hK : way t.mask h K ∉ t.place.toList) (hi : hs[i]? = some h) (hj : t.place.toList[i]? = some j) : ∃ k, k < K ∧ way t.mask h k = j := by
  obtain ⟨k, e, hb⟩ := T.re i h j hi hj
  refine ⟨k, ?_, e⟩
  rcases Nat.lt_trichotomy k K with c | c | c
  · exact c
  · exact (hK (c ▸ e ▸ List.mem_of_getElem? hj)).elim
  · exact (hK (hb K c)).elim
theorem TabN.put (T : TabN t hs) {h : Int} {K j : Nat} (ej : way t.mask h K = j) (hK : j ∉ t.place.toList) (hb : ∀ k, k < K → way t.mask h k ∈ t.place.toList) :
    SetTable.below t.place j ≤ hs.length ∧ TabN (t.put j).1 (hs.take (SetTable.below t.place j) ++ h :: hs.drop (SetTable.below t.place j)) ∧ (t.put j).1.place.size = hs.length + 1 := by
  obtain ⟨c1, _, _⟩ := below_cut T.ris j
  have bp : SetTable.below t.place j ≤ t.place.toList.length := by rw [Array.length_toList]; exact c1
  have bh : SetTable.below t.place j ≤ hs.length := by rw [← T.sz]; exact c1
  have np : t.place[SetTable.below t.place j]? ≠ some j := fun e => hK (List.mem_of_getElem? (by rw [Array.getElem?_toList]; exact e))
  have pp := put_place t j
  have size : (t.put j).1.place.size = hs.length + 1 := by
    rw [← Array.length_toList, pp, len_ins _ bp, Array.length_toList, T.sz]
  have up : ∀ {x : Nat}, x ∈ t.place.toList → x ∈ (t.put j).1.place.toList := fun {x} hx => by
    rw [pp]; exact mem_ins.2 (.inr hx)
  refine ⟨bh, ⟨ris_insert T.ris np, put_dm T.dm j, by rw [len_ins _ bh]; exact size, T.mok, fun x hx => ?_, fun i h' j' h1 h2 => ?_⟩, size⟩
  · rw [pp] at hx
    rcases mem_ins.1 hx with z | z
    · rw [z, ← ej]; exact wayN_le
    · exact T.bd x z
  · rw [tins_get hs bh] at h1
    rw [pp, tins_get _ bp] at h2
    have old : ∀ i0, hs[i0]? = some h' → t.place.toList[i0]? = some j' → ∃ k, way t.mask h' k = j' ∧ ∀ k', k' < k → way t.mask h' k' ∈ (t.put j).1.place.toList := fun i0 a b => by
      obtain ⟨k, e, z⟩ := T.re i0 h' j' a b
      exact ⟨k, e, fun k' hk' => up (z k' hk')⟩
    by_cases c : i < SetTable.below t.place j
    · rw [if_pos c] at h1 h2
      exact old i h1 h2
    · rw [if_neg c] at h1 h2
      by_cases d : i = SetTable.below t.place j
      · rw [if_pos d] at h1 h2
        cases h1; cases h2
        exact ⟨K, ej, fun k' hk' => up (hb k' hk')⟩
      · rw [if_neg d] at h1 h2
        exact old (i - 1) h1 h2
end
end Sd
namespace Sd
open PySem PySem.Spec PyProof.Rows L2
section
variable {P : Program} {w : World} {A : Around} {E : Value → Shared → Prop} {s : Shared}
abbrev nkd (P : Program) (w : World) : HeapKind P w NestedKey := nestedKind P w
mutual
theorem ofA_key : ∀ (k : NestedKey) (v : Value) (n : Nat) (Q : Bool → Shared → Prop), NestedIs s.heap k v → k.depth ≤ n → Q false s → wpAny (model P w) A (ofAClassStatement n v) Q E s
  | .none, _, n, Q, x, _, q => by
    cases x
    cases n <;> exact wpAny_pure q
  | .num i, _, n, Q, x, _, q => by
    cases x <;> cases n <;> exact wpAny_pure q
  | .text y, _, n, Q, x, _, q => by
    cases x
    cases n <;> exact wpAny_pure q
  | .tup ks, _, n, Q, x, hn, q => by
    cases x with
    | @tup b o vs m _ ho hc hd hk =>
      cases n with
      | zero => simp only [NestedKey.depth] at hn; omega
      | succ n =>
        have hT : s.TypeIs (.ref b) "tuple" := ⟨o, ho, hc⟩
        unfold ofAClassStatement
        refine wpAny_bind (wpAny_typeOf hT ?_)
        dsimp only
        have e : (("tuple" : String) == "tuple") = true := by decide
        simp only [e, if_true, Bool.not_true, Bool.false_eq_true, if_false]
        try refine wpAny_bind (wpAny_pure ?_)
        try simp only [Bool.not_true, Bool.false_eq_true, if_false]
        show wpAny _ _ (seqItems? (.ref b) >>= _) _ _ s
        refine wpAny_bind (wpAny_seqItems ho hd ?_)
        dsimp only
        refine wpAny_bind ?_
        show wpAny _ _ (forIn vs _ _) _ _ s
        rw [← Array.forIn_toList]
        have all := ofA_keys ks vs.toList n hk (by simp only [NestedKey.depth] at hn; omega)
        refine wpAny_forIn_list _ (fun rest r s' => r.1 = none ∧ s' = s ∧ ∀ u ∈ rest, ∀ R : Bool → Shared → Prop, R false s → wpAny (model P w) A (ofAClassStatement n u) R E s) _ ?_ ?_ _ _ ⟨rfl, rfl, all⟩
        · rintro u rest r s' ⟨hr, rfl, more⟩
          refine wpAny_bind (more u List.mem_cons_self _ ?_)
          simp only [Bool.false_eq_true, if_false]
          exact wpAny_pure ⟨rfl, rfl, fun z hz => more z (List.mem_cons_of_mem _ hz)⟩
        · rintro ⟨r1, r2⟩ s' ⟨hr, rfl, _⟩
          simp only at hr
          subst hr
          exact wpAny_pure q
theorem ofA_keys : ∀ (ks : List NestedKey) (vs : List Value) (n : Nat), NestedAll s.heap ks vs → NestedKey.depthAll ks ≤ n → ∀ u ∈ vs, ∀ R : Bool → Shared → Prop, R false s → wpAny (model P w) A (ofAClassStatement n u) R E s
  | [], _, n, x, _, u, hu => by cases x; cases hu
  | k :: ks, _, n, x, hn, u, hu => by
    cases x with
    | cons x1 x2 =>
      simp only [NestedKey.depthAll] at hn
      intro R hR
      rcases List.mem_cons.mp hu with e | hu
      · rw [e]; exact ofA_key k _ n R x1 (by omega) hR
      · exact ofA_keys ks _ n x2 (by omega) u hu R hR
end
theorem seen_key {k : NestedKey} {b : Addr} {Q : Bool → Shared → Prop} (hk : (nkd P w).is s.heap k b) {ys : List Value} (hy : ∀ y ∈ ys, ∃ k' c, y = Value.ref c ∧ (nkd P w).is s.heap k' c) (q : Q false s) :
    wpAny (model P w) A (searchCouldBeSeen (.ref b) ys) Q E s := by
  unfold searchCouldBeSeen
  refine wpAny_bind ?_
  refine wpAny_forIn_list _ (fun rest r s' => r.1 = none ∧ s' = s ∧ ∀ y ∈ rest, ∃ k' c, y = Value.ref c ∧ (nkd P w).is s.heap k' c) _ ?_ ?_ _ _ ⟨rfl, rfl, hy⟩
  · rintro v rest r s' ⟨hr, rfl, more⟩
    obtain ⟨k', c, rfl, hc⟩ := more v List.mem_cons_self
    have more' : ∀ y ∈ rest, ∃ k' c, y = Value.ref c ∧ (nkd P w).is s'.heap k' c := fun u hu => more u (List.mem_cons_of_mem _ hu)
    dsimp only
    by_cases hv : (b == c || (carriedByValue (.ref b) && carriedByValue (.ref c))) = true
    · refine wp_if_pos hv ?_
      exact wpAny_pure ⟨rfl, rfl, more'⟩
    · refine wp_if_neg hv ?_
      refine wpAny_bind ((nkd P w).quiet hk ?_)
      simp only [Bool.not_true, Bool.false_eq_true, if_false]
      refine wpAny_bind ((nkd P w).quiet hc ?_)
      simp only [Bool.not_true, Bool.false_eq_true, if_false]
      refine wpAny_bind (ofA_key k _ 8 _ hk.1 hk.2 ?_)
      simp only [Bool.false_eq_true, if_false]
      refine wpAny_bind (ofA_key k' _ 8 _ hc.1 hc.2 ?_)
      simp only [Bool.false_eq_true, if_false]
      exact wpAny_pure ⟨rfl, rfl, more'⟩
  · rintro ⟨r1, r2⟩ s' ⟨hr, rfl, _⟩
    simp only at hr
    subst hr
    exact wpAny_pure q
def rowsN (w : World) (L : List (Addr × NestedKey)) : List (Int × Value) := L.map fun p => (p.2.hash w, Value.ref p.1)
/-- an object that is a set of these keys -/
structure SObj (w : World) (o : Obj) (L : List (Addr × NestedKey)) (es : Array (Int × Value)) (ep : Nat) (t : SetTable) : Prop where
  ex : o.ExactSet
  dt : o.data = .set es ep t
  rows : es.toList = rowsN w L
  tab : TabN t (L.map fun p => p.2.hash w)
  nd : (L.map (·.2)).Nodup
  led : w.params.followText "set-order" = true ∨ t.led = true
  room : L.length * 5 < t.mask * 3
  few : L.length ≤ 1100
/-- the set at a -/
structure SetN (P : Program) (w : World) (h : Heap) (a : Addr) (o : Obj) (L : List (Addr × NestedKey)) (es : Array (Int × Value)) (ep : Nat) (t : SetTable) : Prop where
  at_ : h.get? a = some o
  ob : SObj w o L es ep t
  ks : ∀ p ∈ L, (nkd P w).is h p.2 p.1
variable {a : Addr} {o : Obj} {L : List (Addr × NestedKey)} {es : Array (Int × Value)} {ep : Nat} {t : SetTable}
theorem SObj.size (R : SObj w o L es ep t) : es.size = L.length := by
  have h := congrArg List.length R.rows
  unfold rowsN at h
  rwa [Array.length_toList, List.length_map] at h
theorem SObj.fits (R : SObj w o L es ep t) : t.fits es.size = true := by
  have h1 := R.tab.sz
  rw [List.length_map] at h1
  have h2 := R.size
  have h3 := R.room
  unfold SetTable.fits SetTable.fill
  rw [R.tab.dm, Bool.and_eq_true, beq_iff_eq, decide_eq_true_eq]
  show t.place.size = es.size ∧ t.place.size + 0 ≤ t.mask
  omega
theorem SObj.entry (R : SObj w o L es ep t) {i : Nat} {p : Addr × NestedKey} (h : L[i]? = some p) : es[i]? = some (p.2.hash w, Value.ref p.1) := by
  rw [← Array.getElem?_toList, R.rows]
  unfold rowsN
  rw [List.getElem?_map, h]; rfl
theorem oddN {m : Nat} (h : MaskN m) : m % 2 = 1 := by
  rcases h with e | e | e | e | e <;> subst e <;> rfl
theorem SObj.odd (R : SObj w o L es ep t) : ¬ t.gaveWay = true := by
  unfold SetTable.gaveWay
  rw [oddN R.tab.mok]; decide
abbrev pw (m : Nat) (h : Int) (c : Nat) : SetTable.Probe := nth m (runAt m (SetTable.bits h % (m + 1)) (SetTable.bits h)) c
theorem pw_dummy (m : Nat) (h : Int) (c : Nat) : (pw m h c).dummy = none := by
  have key : ∀ (n : Nat) (p : SetTable.Probe), p.dummy = none → (nth m p n).dummy = none := by
    intro n
    induction n with
    | zero => exact fun p h => h
    | succ n ih =>
      intro p h
      refine ih (adv m p) ?_
      unfold adv
      split <;> exact h
  exact key c _ rfl
theorem pw_add (m : Nat) (h : Int) (c q : Nat) : nth m (pw m h c) q = pw m h (c + q) := (nth_add m c _ q).symm
/-- the search, from the c-th step of the way on -/
theorem searchN (R : SetN P w s.heap a o L es ep t) {x : Addr} {k : NestedKey} (hx : (nkd P w).is s.heap k x) (hu : A.units + 8 < cLine) {adding : Bool} {K : Nat} (hKf : K < 10 * SetTable.turns t.mask)
    (hK : way t.mask (k.hash w) K ∉ t.place.toList) (hKb : ∀ c, c < K → way t.mask (k.hash w) c ∈ t.place.toList) {Q : SetFound → Shared → Prop}
    (hin : ∀ i, k ∈ L.map (·.2) → Q (.there (if adding then none else some i)) s) (hout : k ∉ L.map (·.2) → Q (.free (way t.mask (k.hash w) K) false) s) :
    ∀ (f c : Nat) (stand : Option SetTable.Probe), stand.getD (t.probeStart (k.hash w)) = pw t.mask (k.hash w) c → c ≤ K → K - c < f →
      (∀ (i : Nat) p, L[i]? = some p → p.2 = k → ∃ c', c ≤ c' ∧ c' < K ∧ t.place.toList[i]? = some (way t.mask (k.hash w) c')) →
      wpAny (model P w) A (setSearchFrom a (.ref x) (k.hash w) adding f stand) Q E s
  | 0, c, stand, _, _, hf, _ => absurd hf (Nat.not_lt_zero _)
  | f + 1, c, stand, hst, hc, hf, hre => by
    have ho := R.at_
    have hd := R.ob.dt
    rw [setSearchFrom_succ]
    refine wpAny_bind (wpAny_setState_of ho hd R.ob.fits ?_)
    dsimp only
    refine wp_if_neg R.ob.odd ?_
    try refine wpAny_bind (wpAny_pure ?_)
    have e1 : ∀ q, (nth t.mask (pw t.mask (k.hash w) c) q).j = way t.mask (k.hash w) (c + q) := fun q => congrArg SetTable.Probe.j (pw_add t.mask _ c q)
    have spec := go_spec t R.ob.tab.ris R.ob.tab.dm (fun i => (es[i]?.map (·.1)).getD 0) (k.hash w) (10 * SetTable.turns t.mask) (K - c) (pw t.mask (k.hash w) c) (pw_dummy _ _ _) (by omega)
      (fun q hq => by rw [e1]; exact hKb (c + q) (by omega)) (by rw [e1, show c + (K - c) = K by omega]; exact hK)
    have hashAt : ∀ (i : Nat) p, L[i]? = some p → (fun i => (es[i]?.map (·.1)).getD 0) i = p.2.hash w := fun i p hp => by
      show (es[i]?.map (·.1)).getD 0 = _
      rw [R.ob.entry hp]; rfl
    rcases spec with ⟨q, i, hq, hi, hh, hno, hpr⟩ | ⟨hno, hpr⟩
    · have hpr' : t.probe (fun i => (es[i]?.map (·.1)).getD 0) (k.hash w) (stand.getD (t.probeStart (k.hash w))) = some (.candidate (way t.mask (k.hash w) (c + q)) i (pw t.mask (k.hash w) (c + (q + 1)))) := by
        rw [hst, ← e1, ← pw_add]; exact hpr
      rw [hpr']
      dsimp only
      rw [e1] at hi
      have hil : i < L.length := by
        have h1 : i < t.place.toList.length := (List.getElem?_eq_some_iff.mp hi).1
        have h2 := R.ob.tab.sz
        rw [List.length_map] at h2
        rw [Array.length_toList] at h1
        omega
      have hp : L[i]? = some L[i] := List.getElem?_eq_getElem hil
      generalize L[i] = p at hp
      have hmem : p ∈ L := List.mem_of_getElem? hp
      have rest : wpAny (model P w) A (searchRest a (.ref x) (k.hash w) adding f es t (way t.mask (k.hash w) (c + q)) i (pw t.mask (k.hash w) (c + (q + 1)))) Q E s := by
        unfold searchRest
        rw [R.ob.entry hp]
        dsimp only
        refine wpAny_bind (wpAny_holding ((nkd P w).eqBool hu (R.ks p hmem) hx ?_))
        refine wpAny_bind (wpAny_setState_of ho hd R.ob.fits ?_)
        dsimp only
        have hsl : t.slot (way t.mask (k.hash w) (c + q)) = .live i := slot_live R.ob.tab.ris hi
        by_cases hkk : p.2 = k
        · have hm : k ∈ L.map (·.2) := List.mem_map.mpr ⟨p, hmem, hkk⟩
          cases adding with
          | true =>
            refine wp_if_pos (by simp [hkk]) ?_
            exact wpAny_pure (hin 0 hm)
          | false =>
            refine wp_if_neg (by simp) ?_
            try refine wpAny_bind (wpAny_pure ?_)
            rw [sameMem]
            dsimp only
            simp only [if_true, hsl, R.ob.entry hp]
            refine wpAny_bind (wpAny_isSame_ref_self (wpAny_bind (wpAny_pure ?_)))
            simp only [if_true]
            refine wp_if_pos (by simp [hkk]) ?_
            exact wpAny_pure (hin i hm)
        · refine wp_if_neg (by simp [hkk]) ?_
          try refine wpAny_bind (wpAny_pure ?_)
          rw [sameMem]
          dsimp only
          simp only [if_true, hsl, R.ob.entry hp]
          refine wpAny_bind (wpAny_isSame_ref_self (wpAny_bind (wpAny_pure ?_)))
          simp only [if_true]
          refine wp_if_neg (by simp [hkk]) ?_
          refine searchN R hx hu hKf hK hKb hin hout f (c + (q + 1)) _ rfl (by omega) (by omega) fun i0 p0 h0 hk0 => ?_
          obtain ⟨c', a1, a2, a3⟩ := hre i0 p0 h0 hk0
          refine ⟨c', ?_, a2, a3⟩
          rcases Nat.lt_trichotomy c' (c + q) with z | z | z
          · refine (hno (c' - c) i0 (by omega) (by rw [e1, show c + (c' - c) = c' by omega]; exact a3) ?_).elim
            exact (hashAt i0 p0 h0).trans (congrArg (NestedKey.hash w) hk0)
          · rw [z] at a3
            have s0 := slot_live R.ob.tab.ris a3
            rw [hsl] at s0
            injection s0 with s0
            rw [← s0, hp] at h0
            exact (hkk ((congrArg Prod.snd (Option.some.inj h0)).trans hk0)).elim
          · omega
      by_cases hl : t.led = true
      · refine wp_if_neg (by simp [hl]) ?_
        try refine wpAny_bind (wpAny_pure ?_)
        exact rest
      · refine wp_if_pos (by simp [hl]) ?_
        refine wpAny_bind (seen_key hx (fun y hy => ?_) ?_)
        · obtain ⟨e, he, ee⟩ := List.mem_map.mp hy
          have he1 : e ∈ es ∧ e.1 = k.hash w := by simpa using he
          have he2 : e ∈ es.toList := by simpa using he1.1
          rw [R.ob.rows] at he2
          obtain ⟨p2, hp2, e2⟩ := List.mem_map.mp he2
          exact ⟨p2.2, p2.1, by rw [← ee, ← e2], R.ks p2 hp2⟩
        · refine wp_if_neg (by decide) ?_
          try refine wpAny_bind (wpAny_pure ?_)
          exact rest
    · have hpr' : t.probe (fun i => (es[i]?.map (·.1)).getD 0) (k.hash w) (stand.getD (t.probeStart (k.hash w))) = some (.empty (way t.mask (k.hash w) K) none) := by
        have e2 : way t.mask (k.hash w) K = (nth t.mask (pw t.mask (k.hash w) c) (K - c)).j := by
          rw [e1, show c + (K - c) = K by omega]
        rw [hst, e2]; exact hpr
      rw [hpr']
      dsimp only
      refine wpAny_pure (hout fun hm => ?_)
      obtain ⟨p0, h0, hk0⟩ := List.mem_map.mp hm
      obtain ⟨i0, hi0, e0⟩ := List.getElem_of_mem h0
      have h00 : L[i0]? = some p0 := by rw [List.getElem?_eq_getElem hi0, e0]
      obtain ⟨c', a1, a2, a3⟩ := hre i0 p0 h00 hk0
      refine hno (c' - c) i0 (by omega) (by rw [e1, show c + (c' - c) = c' by omega]; exact a3) ?_
      exact (hashAt i0 p0 h00).trans (congrArg (NestedKey.hash w) hk0)
theorem turnsN {m : Nat} (h : MaskN m) : 10 * SetTable.turns m ≤ 20620 := by
  unfold SetTable.turns
  rcases h with e | e | e | e | e <;> omega
theorem search0N (R : SetN P w s.heap a o L es ep t) {x : Addr} {k : NestedKey} (hx : (nkd P w).is s.heap k x) (hu : A.units + 8 < cLine) {adding : Bool} {Q : SetFound → Shared → Prop}
    (hin : ∀ i, k ∈ L.map (·.2) → Q (.there (if adding then none else some i)) s)
    (hout : ∀ K, k ∉ L.map (·.2) → way t.mask (k.hash w) K ∉ t.place.toList → (∀ c, c < K → way t.mask (k.hash w) c ∈ t.place.toList) → Q (.free (way t.mask (k.hash w) K) false) s) :
    wpAny (model P w) A (setSearch a (.ref x) (k.hash w) adding) Q E s := by
  have room := R.ob.room
  obtain ⟨K, hKf, hK, hKb⟩ := R.ob.tab.empty (by rw [List.length_map]; omega) (k.hash w)
  have big := turnsN R.ob.tab.mok
  unfold setSearch
  refine searchN R hx hu hKf hK hKb hin (fun hn => hout K hn hK hKb) 100000 0 none rfl (Nat.zero_le _) (by omega) fun i p hp hk => ?_
  have hi : (L.map fun p => p.2.hash w)[i]? = some (k.hash w) := by rw [List.getElem?_map, hp, ← hk]; rfl
  have hil : i < t.place.toList.length := by
    have h1 : i < L.length := (List.getElem?_eq_some_iff.mp hp).1
    have h2 := R.ob.tab.sz
    rw [List.length_map] at h2
    rw [Array.length_toList]; omega
  have hj := List.getElem?_eq_getElem hil
  obtain ⟨c, hc, e⟩ := R.ob.tab.ahead hK hi hj
  exact ⟨c, Nat.zero_le _, hc, by rw [hj, e]⟩
/-- k in set -/
theorem findN (R : SetN P w s.heap a o L es ep t) {x : Addr} {k : NestedKey} (hx : (nkd P w).is s.heap k x) (hu : A.units + 8 < cLine) {Q : Option Nat → Shared → Prop}
    (hin : ∀ i, k ∈ L.map (·.2) → Q (some i) s) (hout : k ∉ L.map (·.2) → Q none s) : wpAny (model P w) A (setFind a (.ref x) (k.hash w)) Q E s := by
  unfold setFind
  rw [show (100000 : Nat) = 99999 + 1 from rfl]
  unfold setFindIn
  refine wpAny_bind (wpAny_setState_of R.at_ R.ob.dt R.ob.fits ?_)
  dsimp only
  refine wp_if_neg (by simp [byScan, Value.scannable]) ?_
  try refine wpAny_bind (wpAny_pure ?_)
  refine wpAny_bind (search0N R hx hu (adding := false) (fun i hm => ?_) fun K hm _ _ => ?_)
  · exact wpAny_pure (hin i hm)
  · exact wpAny_pure (hout hm)
end
end Sd
namespace Sd
open PySem PySem.Spec PyProof.Rows L2
end Sd
namespace Sd
open PySem PySem.Spec PyProof.Rows L2
/-- what is asked of a set at a -/
structure SAt (K : PySem.W.Frag) (w : World) (H : Hp) (a : Addr) (o : Obj) (L : List (Addr × NestedKey)) : Prop where
  at_ : H a = some (DO a o)
  ob : ∃ es ep t, SObj w o L es ep t
  ks : ∀ p ∈ L, KeyIn K H p.2 p.1
section
variable {X : Cx} {pins : List (Addr × Obj)} {σ : L2.St} {H : Hp} {s : Shared} {a : Addr} {o : Obj} {L : List (Addr × NestedKey)}
theorem SAt.get (I : Inv X pins σ H s) (d : SAt X.K X.w H a o L) : ∃ es ep t, SetN X.prog X.w s.heap a o L es ep t := by
  obtain ⟨es, ep, t, h⟩ := d.ob
  exact ⟨es, ep, t, do_get I d.at_, h, fun p hp => ⟨(d.ks p hp).1.is I rfl, (d.ks p hp).2⟩⟩
/-- x in s, x not in s -/
def rInSN (K : PySem.W.Frag) (w : World) (neg : Bool) : R2 := fun x y H Q => ∃ a b o L k, x = .ref b ∧ y = .ref a ∧ SAt K w H a o L ∧ KeyIn K H k b ∧ Q (.bl (if neg then !decide (k ∈ L.map (·.2)) else decide (k ∈ L.map (·.2)))) H
theorem containsN {A : Around} {E : Value → Shared → Prop} {P : Program} {w : World} {b : Addr} {k : NestedKey} {es : Array (Int × Value)} {ep : Nat} {t : SetTable} {Q : Bool → Shared → Prop} (hu : A.units + 10 < cLine) (R : SetN P w s.heap a o L es ep t) (hx : (nkd P w).is s.heap k b)
    (h : Q (decide (k ∈ L.map (·.2))) { s with toks := s.toks + (nkd P w).draws k }) : wpAny (model P w) A (contains (.ref a) (.ref b)) Q E s := by
  have hT : s.TypeIs (.ref a) "set" := ⟨o, R.at_, R.ob.ex.1⟩
  unfold contains
  try with_reducible refine wpAny_holding ?_
  refine wpAny_bind (wpAny_specialOf hT F.slot_set_contains.lookup ?_)
  show wpAny _ _ (if (some (Value.builtin "set.__contains__") == some Value.none) = true then _ else _) _ E s
  rw [if_neg (by rw [beq_builtin_none]; exact Bool.false_ne_true)]
  refine wpAny_bind (wpAny_callSpecialUnlessNone?_slot (name := Str.ofString "__contains__") hT F.slot_set_contains (wpAny_call_entry F.slot_set_contains hT entry_set_contains ?_ (F.args_set_contains_2 _ _)))
  unfold Builtin.«frozenset.__contains__» Builtin.Frozenset.oneOther
  simp only [List.isEmpty_nil, bind_assoc]
  unfold Builtin.Frozenset.addrOf Builtin.Frozenset.withSetAsKey setContains
  refine wpAny_bind (wpAny_pure ?_)
  try dsimp only
  refine wpAny_bind (wpAny_pure ?_)
  try dsimp only
  refine wpAny_bind (wpAny_tryCatch ?_)
  refine wpAny_holding ?_
  have room : (nkd P w).room A.in1 := by
    show A.units + 1 + 8 < cLine
    omega
  refine wpAny_bind ((nkd P w).pyHash room hx ?_)
  refine wpAny_bind (findN (s := { s with toks := s.toks + (nkd P w).draws k }) ⟨R.at_, R.ob, R.ks⟩ hx (by show A.units + 1 + 8 < cLine; omega) (fun i hm => ?_) fun hm => ?_)
  · refine wpAny_pure ?_
    show wpAny _ _ (ret (Value.bool true)) _ _ _
    rw [decide_eq_true hm] at h
    exact wpAny_pure ⟨_, rfl, wpAny_truthy_bool h⟩
  · refine wpAny_pure ?_
    show wpAny _ _ (ret (Value.bool false)) _ _ _
    rw [decide_eq_false hm] at h
    exact wpAny_pure ⟨_, rfl, wpAny_truthy_bool h⟩
theorem o_inSN {k0 : Nat} (hr : Room k0 X.A) : OpR X (compareOp .In) (rInSN X.K X.w false) := by
  intro pins s σ H x y v u Q I rx ry h
  obtain ⟨a, b, o, L, k, rfl, rfl, d, hk, q⟩ := h
  cases rx; cases ry
  obtain ⟨es, ep, t, R⟩ := d.get I
  have un := hr.un
  show wpAny _ _ (do return Value.bool (← contains (.ref a) (.ref b))) _ _ s
  refine wpAny_bind (containsN (by omega) R ⟨hk.1.is I rfl, hk.2⟩ (wpAny_pure ?_))
  exact ⟨.bl (decide (k ∈ L.map fun p : Addr × NestedKey => p.2)), H, I.tok _, rfl, q⟩
theorem o_notInSN {k0 : Nat} (hr : Room k0 X.A) : OpR X (compareOp .NotIn) (rInSN X.K X.w true) := by
  intro pins s σ H x y v u Q I rx ry h
  obtain ⟨a, b, o, L, k, rfl, rfl, d, hk, q⟩ := h
  cases rx; cases ry
  obtain ⟨es, ep, t, R⟩ := d.get I
  have un := hr.un
  show wpAny _ _ (do return Value.bool (!(← contains (.ref a) (.ref b)))) _ _ s
  refine wpAny_bind (containsN (by omega) R ⟨hk.1.is I rfl, hk.2⟩ (wpAny_pure ?_))
  exact ⟨.bl (!decide (k ∈ L.map fun p : Addr × NestedKey => p.2)), H, I.tok _, rfl, q⟩
end
end Sd
namespace Sd
open PySem PySem.Spec PyProof.Rows L2
end Sd
namespace Sd
open PySem PySem.Spec PyProof.Rows
def lrD (ks : List Str) : PyData := .tuple [.int ks.length, .tuple (ks.map .str)]
end Sd
namespace Sd
open PySem PySem.Spec PyProof.Rows L2
/-- the code object of the def x, and its table -/
def cdAt (K : PySem.W.Frag) (x : Str) : Option (Addr × Addr) := match K.lookup (He.ga K x) with
  | some ⟨_, _, .func fd, _⟩ => (match fd.code with
    | .ref c => (match K.lookup c with
      | some ⟨_, _, .fields vs, _⟩ => (match (vs[11]? : Option Value) with
        | some (.ref P) => some (c, P)
        | _ => none)
      | _ => none)
    | _ => none)
  | _ => none
def tabAt (K : PySem.W.Frag) (x : Str) : Option Addr := (cdAt K x).map (·.2)
def lamNames : List Str := ["in_order", "parting", "_law_due", "_law_sets", "law"]
def lamQ (x : Str) : Str := (x ++ ".<locals>.") ++ "<lambda>"
/-- the tables that grow: those of the defs that make a lambda -/
def tabsK (K : PySem.W.Frag) : List (Addr × Str) := lamNames.filterMap fun x => (tabAt K x).map fun P => (P, lamQ x)
def TbS (G H : Hp) (p : Addr × Str) : Prop := ∃ ps : Array Value, H p.1 = some (.tbl ps) ∧ TriplesOk ps.toList ∧ ∀ (pos : Pos) (cv : Value), codeAmong pos ps.toList = some cv → ∃ c, cv = .ref c ∧ G c = some (LamX.CodeO c p.2)
def csK (K : PySem.W.Frag) : List (Addr × Addr) := lamNames.filterMap fun x => cdAt K x
theorem csK_tabs {K : PySem.W.Frag} : (csK K).map (·.2) = (tabsK K).map (·.1) := by
  unfold csK tabsK tabAt
  rw [List.map_filterMap, List.map_filterMap]
  congr 1
  funext x
  cases cdAt K x <;> rfl
/-- the tables of the written part, for the defs that make lambdas -/
def TbBs (K : PySem.W.Frag) (base : Heap) (mg : Str → Option Value) : Prop := ∀ p ∈ csK K, LamX.TabB base mg p.1 p.2
/-- a lambda is made in the table at P: its code object is there, or a new one is put -/
def Made (H : Hp) (P : Addr) (q : Str) (H2 : Hp) : Prop := H2 = H ∨ ∃ (ps : Array Value) (c : Addr) (pos : Pos), H P = some (.tbl ps) ∧ H c = none ∧ H2 = upd (upd H P (.tbl (ps ++ #[rawInt pos.line, rawInt pos.col, .ref c]))) c (LamX.CodeO c q)
end Sd
namespace Sd
open PySem PySem.Spec PyProof.Rows L2
theorem leaving_snoc (L : List Step) (t : Step) (s : Int) : leavingN (L ++ [t]) s = leavingN L s + if t.1 = s then 1 else 0 := by
  unfold leavingN
  rw [List.filter_append, List.length_append]
  by_cases h : t.1 = s <;> simp [h]
theorem firstBad_leaving {s : Int} : ∀ (L kept : List Step) (i : Nat), firstBad (L.map some) kept i = none → leavingN kept s ≤ 4 → leavingN (kept ++ L) s ≤ 4
  | [], kept, _, _, h => by rw [List.append_nil]; exact h
  | t :: L, kept, i, hb, h => by
    rw [List.map_cons] at hb
    unfold firstBad at hb
    split at hb
    · cases hb
    · split at hb
      · cases hb
      · rename_i c1 c2
        have := firstBad_leaving L (kept ++ [t]) (i + 1) hb (by
          rw [leaving_snoc]
          by_cases e : t.1 = s
          · rw [if_pos e]; rw [e] at c2; omega
          · rw [if_neg e]; exact h)
        simpa using this
theorem hits_le (st : Int) (w : Str) (L : List Step) : ∀ i : Nat, ((List.range i).filter fun k => (L[k]?.map (hit st w)).getD false).length ≤ leavingN (L.take i) st
  | 0 => by simp
  | i + 1 => by
    have ih := hits_le st w L i
    cases e : L[i]? with
    | none =>
      have ll : L.length ≤ i := List.getElem?_eq_none_iff.mp e
      rw [List.range_succ, List.filter_append, List.length_append]
      have : ([i].filter fun k => (L[k]?.map (hit st w)).getD false) = [] := by rw [List.filter_cons, e]; rfl
      rw [this, List.take_of_length_le (by omega : L.length ≤ i + 1)]
      rw [List.take_of_length_le ll] at ih
      exact ih
    | some s =>
      rw [hits_snoc e, List.take_add_one, e, Option.toList_some, leaving_snoc, List.length_append]
      by_cases c : hit st w s = true
      · have c1 : s.1 = st := of_decide_eq_true (Bool.and_eq_true_iff.mp c).1
        rw [if_pos c, if_pos c1]
        show _ + 1 ≤ _ + 1
        omega
      · rw [if_neg c]
        show _ + 0 ≤ _
        omega
theorem numbers_le {zs : List Str} {ms : Nat} {r : Rw} (h : GoodRow zs ms r) (st : Int) (w : Str) : (numbersOf r.2 st w).length ≤ 4 := by
  unfold numbersOf
  split
  · rw [List.length_map]
    have h1 := hits_le st w r.2 r.2.length
    have h2 := firstBad_leaving (s := st) r.2 [] 0 h.fb (by simp [leavingN])
    rw [List.take_length] at h1
    rw [List.nil_append] at h2
    exact Nat.le_trans h1 h2
  · simp
theorem DrawnRows.small {zs : List Str} {mh mw ms : Nat} {rs : List Rw} {ks : List Int} (h : DrawnRows zs mh mw ms rs ks) (h4 : mh ≤ 4) (w12 : mw ≤ 12) : SmallR rs := by
  have h1 := sysWords_le h.ok
  have h2 := h.zl
  have h3 := h.n2
  exact ⟨by omega, by omega, fun r hr st w => numbers_le (h.ok r hr) st w, fun r hr => by have := (h.ok r hr).l2; omega⟩
theorem DrawnRows.names {zs : List Str} {mh mw ms : Nat} {rs : List Rw} {ks : List Int} (h : DrawnRows zs mh mw ms rs ks) {w : Str} (hw : w ∈ sysWords rs) : IsName w := by
  obtain ⟨r, hr, hz⟩ := List.mem_flatMap.mp (mem_uniq.mp hw)
  obtain ⟨ss, dr, _⟩ := (h.ok r hr).ex
  obtain ⟨s, hs, rfl⟩ := List.mem_map.mp (mem_uniq.mp hz)
  exact h.zn _ (dr.wd s hs)
theorem moves_word {rs : List Rw} {sts : List Int} {m : Move} (h : m ∈ movesOf rs sts) : m.1 ∈ sysWords rs := by
  obtain ⟨w, hw, hm⟩ := List.mem_flatMap.mp h
  obtain ⟨l, hl, rfl⟩ := List.mem_map.mp hm
  exact hw
end Sd
namespace Sd
open PySem PySem.Spec PyProof.Rows L2
section
variable {P : Program} {w : World} {A : Around} {E : Value → Shared → Prop} {s : Shared}
theorem ix_set_list {l : Addr} {items : Array Value} {ns : List Int} {Q : Value → Shared → Prop} (hh : A.handled = none) (hl : s.heap.IsList l items) (hi : IntsAre items.toList ns) (hfew : ns.length + 1 < scanBound)
    (hQ : ∀ (h' : Heap) (tk c : Nat), SetR w h' s.heap.objs.size (fun j => decide (j ∈ ns)) c → c ≤ ns.length → (∀ b o, s.heap.get? b = some o → h'.get? b = some o) → Q (.ref s.heap.objs.size) { s with heap := h', toks := tk }) :
    wpAny (model P w) A (call (.type "set") [.ref l]) Q E s := by
  obtain ⟨cmro, tlmro, hmro⟩ := PySem.F.called_set.mro
  have hmade := PySem.F.called_set.made
  have hsubt := PySem.F.called_set.sub
  refine wpAny_call (codeAny_of_tree ?_)
  show wpAny _ _ (callAny (.type "set") _) _ _ _
  refine wpAny_pure ⟨Code.quiet_builtin _ (by decide +kernel), codeAny_builtin PySem.F.entry_type_call ?_⟩
  rw [Around.under_plain (weight_type_call_type "set" [.ref l] []) rfl]
  have c1 := PySem.F.called_set.notType
  have c2 := PySem.F.called_set.canCreate
  have c3 := PySem.F.typeCall_set_1 (.ref l)
  repeat (any_goals (first | assumption | wp_step))
  refine codeAny_mono (code_set_led1 (.ref l) (E := E) (Q₁ := fun ob s₁ => ob = .ref s.heap.objs.size ∧ s₁ = { s with heap := s.heap.push (newS w) }) ⟨rfl, rfl⟩) fun r s₁ hr => ?_
  cases r with
  | error e => exact hr
  | ok fl =>
    cases fl with
    | ret ob =>
      obtain ⟨rfl, rfl⟩ := hr
      have hS : (s.heap.push (newS w)).get? s.heap.objs.size = some (newS w) := Heap.get?_push_size _ rfl
      have hT : Shared.TypeIs { s with heap := s.heap.push (newS w) } (.ref s.heap.objs.size) "set" := ⟨_, hS, rfl⟩
      have hli := PySem.F.called_set.init.lookup
      have hbi := PySem.F.called_set.init.bind (.ref s.heap.objs.size)
      repeat (any_goals (first | assumption | wp_step))
      refine codeAny_mono (codeAny_call_builtin (R := wants (fun r s₂ => r = .none ∧ ∃ h' tk c, s₂ = { s with heap := h', toks := tk } ∧ (SetR w h' s.heap.objs.size (fun j => decide (j ∈ ns)) c ∧ c ≤ ns.length) ∧
          (∀ b o, s.heap.get? b = some o → h'.get? b = some o)) E) PySem.F.called_set.init.plain PySem.F.entry_set_init (check_set_init_1 hT ?_)) fun r₂ s₂ hr₂ => ?_
      · obtain ⟨ol, hol, hcl, nl, hdl⟩ := hl
        obtain ⟨ocl, odi, oda, osl⟩ := ol
        simp only at hcl hdl
        subst hcl; subst hdl
        have hol2 : (s.heap.push (newS w)).get? l = some { cls := .type "list", dict := odi, data := .seq items nl, slots := osl } := Heap.get?_push_of_some _ hol
        have n1 := PySem.F.sub_list_set
        have n2 := PySem.F.sub_list_frozenset
        have n3 : (Value.type "list" == Value.type "dict") = false := by decide
        have hl1 : (s.heap.push (newS w)).IsList l items := ⟨_, hol2, rfl, nl, rfl⟩
        unfold Builtin.«set.__init__» noKeywords Builtin.Frozenset.updateFrom
        generalize hPI : pyIter = PI
        wp_walk
        subst hPI
        refine wpAny_pyIter_list hl1 ?_
        refine wpAny_bind (wpAny_runValue ?_)
        have hlS : l < s.heap.objs.size := Heap.lt_size hol
        have hh3 : A.in1.in1.in1.handled = none := by simp [hh]
        have hneI : l ≠ (s.heap.push (newS w)).objs.size := by
          rw [Heap.size_push]
          exact Nat.ne_of_lt (Nat.lt_succ_of_lt hlS)
        have hSf : s.heap.objs.size ∉ [(s.heap.push (newS w)).objs.size, l] := by
          rw [Heap.size_push]
          simp only [List.mem_cons, List.mem_singleton, List.not_mem_nil, or_false, not_or]
          exact ⟨Nat.ne_of_lt (Nat.lt_succ_self _), Nat.ne_of_gt hlS⟩
        have hsz : items.size = ns.length := by
          have e := IntsAre.length hi
          rwa [Array.length_toList] at e
        have hval : ∀ (i : Nat) (v : Value), items[i]? = some v → ∃ k t, ns[i]? = some k ∧ v = .int k t := fun i v hv => by
          have il : i < ns.length := by rw [← hsz]; exact (Array.getElem?_eq_some_iff.mp hv).1
          obtain ⟨t, e⟩ := IntsAre.int_at hi i v (by rw [Array.getElem?_toList]; exact hv)
          exact ⟨ns[i], t, List.getElem?_eq_getElem il, by rw [e, List.getD_eq_getElem?_getD, List.getElem?_eq_getElem il] <;> rfl⟩
        refine set_update_ints ((Walks.list hh3 _ l hneI items).toS) s.heap.objs.size hSf ns hsz hfew hval (items.size - 0) 0 _ (by omega) (Nat.zero_le _)
          ⟨⟨_, Heap.get?_push_size _ rfl, rfl, rfl⟩, (hl1.push _)⟩ ?hS0 ?hR
        case hS0 => exact ⟨0, Nat.le_refl 0, setR_new_at (Heap.get?_push_of_some _ hS)⟩
        case hR =>
          intro s' c' hm hc' hS'
          obtain ⟨h', g', d', tk', os'⟩ := s'
          obtain rfl : g' = s.gens := hm.gens
          obtain rfl : d' = s.drawn := hm.drawn
          obtain rfl : os' = s.os := hm.os
          show wpAny _ _ _ _ _ _
          refine wpAny_pure ?_
          show wpAny _ _ (ret Value.none) _ _ _
          refine wpAny_pure ⟨rfl, h', tk', c', rfl, ⟨hS', by rw [hsz] at hc'; exact hc'⟩, fun b o e => ?_⟩
          have hb := Heap.lt_size e
          refine hm.heap b o ?_ (Heap.get?_push_of_some _ (Heap.get?_push_of_some _ e))
          rw [Heap.size_push]
          simp only [List.mem_cons, List.mem_singleton, List.not_mem_nil, or_false, not_or]
          exact ⟨Nat.ne_of_lt hb, Nat.ne_of_lt (Nat.lt_succ_of_lt hb)⟩
      · cases r₂ with
        | error e => exact hr₂
        | ok fl₂ =>
          cases fl₂ with
          | ret r =>
            obtain ⟨rfl, h', tk, c', rfl, ⟨hS', hc'⟩, hk'⟩ := hr₂
            repeat (any_goals (first | assumption | wp_step))
            exact hQ _ _ _ hS' hc' hk'
          | _ => exact hr₂.elim
    | _ => exact hr.elim
end
end Sd
namespace Sd
open PySem PySem.Spec PyProof.Rows L2
theorem nodup_leS {α : Type} [DecidableEq α] : ∀ (l D : List α), l.Nodup → (∀ x ∈ l, x ∈ D) → l.length ≤ D.length
  | [], _, _, _ => Nat.zero_le _
  | a :: l, D, nd, h => by
    have ha : a ∈ D := h a List.mem_cons_self
    obtain ⟨n1, n2⟩ := List.nodup_cons.mp nd
    have ih := nodup_leS l (D.erase a) n2 fun x hx => (List.mem_erase_of_ne (fun e => n1 (by rw [← e]; exact hx))).mpr (h x (List.mem_cons_of_mem _ hx))
    rw [List.length_erase_of_mem ha] at ih
    have := List.length_pos_of_mem ha
    rw [List.length_cons]; omega
/-- set(a list of ints) -/
def rSetI (K : PySem.W.Frag) (w : World) : List V → Hp → VK → Prop := fun xs H Q => ∃ (a : Addr) (ns : List Int), xs = [.ref a] ∧ SqL K H a (ns.map V.int) ∧ ns.length ≤ 1000 ∧ ∀ (p : Addr) (c : Nat), c ≤ ns.length → (∀ M : List Int, (∀ j ∈ ns, j ∈ M) → c ≤ M.length) → H p = none → Q (.ref p) (upd H p (SetO w p (fun j => decide (j ∈ ns)) c))
theorem cr_setI {X : Cx} (hc : X.calm = true) : CallR X (.type "set") (rSetI X.K X.w) := by
  intro pins s σ H xs us Q I r h
  obtain ⟨l, ns, rfl, hs, hfew, q⟩ := h
  rw [Vals.ref1 r]
  obtain ⟨its, rv, hl, _⟩ := I.list hs
  refine ix_set_list (I.ok.hd hc) hl.isList (by simpa using intsAre_of rv) (by unfold scanBound; omega) fun h' tk c R hc' k => ⟨.ref _, _, I.laid k (Nat.le_refl _) (setO_new R), rfl, q _ c hc' (fun M hM => ?_) (I.hok.fresh (Nat.le_refl _))⟩
  obtain ⟨o, es, ep, t, _, _, _, _, nd, mem, _, _, sz, _⟩ := R
  have := nodup_leS _ M nd fun x hx => hM x (of_decide_eq_true ((mem x).mpr hx))
  rw [List.length_map, Array.length_toList] at this
  omega
end Sd
namespace Sd
open PySem PySem.Spec PyProof.Rows L2
end Sd
namespace Sd
open PySem PySem.Spec PyProof.Rows L2
def takesB (ms : List Move) (h : Nat) : Bool := ms.any fun m => (m.2[h]?.getD none).isSome
end Sd
namespace Sd
open PySem PySem.Spec PyProof.Rows L2
def ableN (rs : List Rw) (sts : List Int) : List Nat := (List.range rs.length).filter fun i => (movesOf rs sts).any fun m => (m.2[i]?.getD none).isSome
def ableOf (rs : List Rw) (sts : List Int) : List Int := (ableN rs sts).map fun k : Nat => (k : Int)
end Sd
namespace Sd
open PySem PySem.Spec PyProof.Rows L2
end Sd
namespace Sd
open PySem PySem.Spec PyProof.Rows L2
def allAble (rs : List Rw) (ps : List (List Int)) (h : Int) : Bool := ps.all fun p => decide (h ∈ ableOf rs p)
end Sd
namespace Sd
open PySem PySem.Spec PyProof.Rows L2
def fairB (rs : List Rw) (ds : List Int) (ar : List (List Int)) (ms : List Move) : Bool := ds.all fun h => !(allAble rs ar h && !takesB ms h.toNat)
def isFairB (rs : List Rw) (ds : List Int) (ar : List (List Int)) (ms : List Move) : Bool := decide (ar.getLast? = ar[0]?) && fairB rs ds ar ms
end Sd
namespace Sd
open PySem PySem.Spec PyProof.Rows L2
end Sd
namespace Sd
open PySem PySem.Spec PyProof.Rows L2
end Sd
namespace Sd
open PySem PySem.Spec PyProof.Rows L2
end Sd
namespace Sd
open PySem PySem.Spec PyProof.Rows L2
theorem WalkOk.take {rs : List Rw} {ps : List (List Int)} {ms : List Move} (h : WalkOk rs ps ms) {n : Nat} (hn : n ≤ ms.length) : WalkOk rs (ps.take (n + 1)) (ms.take n) := by
  have hl := h.len
  refine ⟨by rw [List.length_take, List.length_take]; omega, fun p hp => h.st p (List.mem_of_mem_take hp), fun k m p hk hp => ?_, ?_, fun k m p hk hp => ?_⟩
  · have k1 : k < n := by
      have := (List.getElem?_eq_some_iff.mp hk).1
      rw [List.length_take] at this; omega
    rw [List.getElem?_take_of_lt k1] at hk
    rw [List.getElem?_take_of_lt (by omega)] at hp
    exact h.mv k m p hk hp
  · rw [List.getElem?_take_of_lt (by omega)]; exact h.hd
  · have k1 : k < n := by
      have := (List.getElem?_eq_some_iff.mp hk).1
      rw [List.length_take] at this; omega
    rw [List.getElem?_take_of_lt k1] at hk
    rw [List.getElem?_take_of_lt (by omega)] at hp
    rw [List.getElem?_take_of_lt (by omega)]
    exact h.nx k m p hk hp
end Sd
namespace Sd
open PySem PySem.Spec PyProof.Rows L2
end Sd
namespace Sd
open PySem PySem.Spec PyProof.Rows L2
end Sd
namespace Sd
open PySem PySem.Spec PyProof.Rows L2
def LsAt (H : Hp) (v : V) (l : List Int) : Prop := ∃ a, v = .ref a ∧ H a = some (.lst (l.map V.int))
theorem LsAt.mono {H H' : Hp} {v : V} {l : List Int} (s : Same H H') (h : LsAt H v l) : LsAt H' v l := let ⟨a, e, z⟩ := h; ⟨a, e, s _ _ z⟩
def LsFr (B H : Hp) (v : V) (l : List Int) : Prop := ∃ a, v = .ref a ∧ B a = none ∧ H a = some (.lst (l.map V.int))
theorem LsFr.mono {B H H' : Hp} {v : V} {l : List Int} (s : Same H H') (h : LsFr B H v l) : LsFr B H' v l := let ⟨a, e, n, z⟩ := h; ⟨a, e, n, s _ _ z⟩
def LsNe (D : Addr) (H : Hp) (v : V) (l : List Int) : Prop := ∃ a, v = .ref a ∧ a ≠ D ∧ H a = some (.lst (l.map V.int))
theorem LsNe.mono {D : Addr} {H H' : Hp} {v : V} {l : List Int} (s : Same H H') (h : LsNe D H v l) : LsNe D H' v l := let ⟨a, e, n, z⟩ := h; ⟨a, e, n, s _ _ z⟩
theorem LsNe.upd {D : Addr} {H : Hp} {v : V} {l : List Int} {o : HO} (h : LsNe D H v l) : LsNe D (L2.upd H D o) v l := let ⟨a, e, n, z⟩ := h; ⟨a, e, n, by rw [upd_ne n]; exact z⟩
def LsFN (B : Hp) (D : Addr) (H : Hp) (v : V) (l : List Int) : Prop := ∃ a, v = .ref a ∧ a ≠ D ∧ B a = none ∧ H a = some (.lst (l.map V.int))
theorem LsFN.mono {B : Hp} {D : Addr} {H H' : Hp} {v : V} {l : List Int} (s : Same H H') (h : LsFN B D H v l) : LsFN B D H' v l := let ⟨a, e, n, f, z⟩ := h; ⟨a, e, n, f, s _ _ z⟩
theorem LsFN.upd {B : Hp} {D : Addr} {H : Hp} {v : V} {l : List Int} {o : HO} (h : LsFN B D H v l) : LsFN B D (L2.upd H D o) v l := let ⟨a, e, n, f, z⟩ := h; ⟨a, e, n, f, by rw [upd_ne n]; exact z⟩
theorem LsFN.fr {B : Hp} {D : Addr} {H : Hp} {v : V} {l : List Int} (h : LsFN B D H v l) : LsFr B H v l := let ⟨a, e, n, f, z⟩ := h; ⟨a, e, f, z⟩
end Sd
namespace Sd
open PySem PySem.Spec PyProof.Rows L2
structure WalkB (g : Ga) (B : Hp) (pt rl cl wt rt pl : Addr) (zs : List Str) (rs : List Rw) (ks : List Int) (us xs : List V) (ms : List Move) (ps : List (List Int)) : Prop where
  hpt : B pt = some (.tup [.ref rl, .ref cl])
  hr : RowsAt g B rl rs
  hcl : B cl = some (.lst (ks.map V.int))
  dr : DrawnRows zs 3 4 3 rs ks
  hwt : B wt = some (.tup [.ref rt, .ref pl])
  hu : SqT g.K B rt us
  hm : Paired (MoveAt g.K B) us ms
  hp : B pl = some (.lst xs)
  hs : Paired (StAt g.K B) xs ps
  wk : WalkOk rs ps ms
  few : ms.length ≤ 1000
theorem WalkB.mono {g : Ga} {B H : Hp} {pt rl cl wt rt pl : Addr} {zs : List Str} {rs : List Rw} {ks : List Int} {us xs : List V} {ms : List Move} {ps : List (List Int)} (s : Same B H) (h : WalkB g B pt rl cl wt rt pl zs rs ks us xs ms ps) : WalkB g H pt rl cl wt rt pl zs rs ks us xs ms ps :=
  ⟨s _ _ h.hpt, h.hr.mono s, s _ _ h.hcl, h.dr, s _ _ h.hwt, Same.tup s h.hu, paired_mono (fun _ _ z => z.mono s) h.hm, s _ _ h.hp, paired_mono (fun _ _ z => z.mono s) h.hs, h.wk, h.few⟩
/-- the law of k23: fair for a set exactly if for each of its hands alone -/
def goodH (rs : List Rw) (ar : List (List Int)) (ms : List Move) (h : Int) : Bool := !(allAble rs ar h && !takesB ms h.toNat)
theorem fairB_all (rs : List Rw) (ds : List Int) (ar : List (List Int)) (ms : List Move) : fairB rs ds ar ms = ds.all (goodH rs ar ms) := rfl
end Sd
namespace Sd
open PySem PySem.Spec PyProof.Rows L2
def cart : List (List Int) → List (List Int)
  | [] => [[]]
  | L :: Ls => L.flatMap fun x => (cart Ls).map (x :: ·)
noncomputable def cartN (rs : List Rw) : Nat := (cart (rs.map fun r => reachL r.2 r.1)).length
theorem flat_const {α β : Type} {f : α → List β} {n : Nat} (h : ∀ a, (f a).length = n) : ∀ l : List α, (l.flatMap f).length = l.length * n
  | [] => by simp
  | a :: l => by rw [List.flatMap_cons, List.length_append, flat_const h l, h a, List.length_cons, Nat.succ_mul]; omega
noncomputable def fm (rs : List Rw) (p : List Int) (h : Nat) : Option Move := (movesOf rs p).find? fun m => (m.2[h]?.getD none).isSome
noncomputable def rnd (rs : List Rw) : List Int → List Int → List Move × List Int
  | [], p => ([], p)
  | d :: ds, p => match fm rs p d.toNat with
    | none => rnd rs ds p
    | some m => (m :: (rnd rs ds (behindOf rs p m.2)).1, (rnd rs ds (behindOf rs p m.2)).2)
noncomputable def goR (rs : List Rw) (ds : List Int) : Nat → List Int → List Move → List (List Int × Nat) → List Move × Nat
  | 0, _, made, _ => (made, 0)
  | n + 1, p, made, bs => match bs.lookup p with
    | some b => (made, b)
    | none => goR rs ds n (rnd rs ds p).2 (made ++ (rnd rs ds p).1) (bs ++ [(p, made.length)])
noncomputable def frun (rs : List Rw) (ds : List Int) (p : List Int) : List Move × Nat := goR rs ds (cartN rs + 1) p [] []
/-- hand d is served from place b on -/
def Served (rs : List Rw) (n : Nat) (ps : List (List Int)) (made : List Move) (d : Int) (b : Nat) : Prop :=
  ∃ i, b ≤ i ∧ ((∃ q, ps[n + i]? = some q ∧ d ∉ ableOf rs q) ∨ ∃ m, made[i]? = some m ∧ (m.2[d.toNat]?.getD none).isSome = true)
structure BsOk (rs : List Rw) (ds : List Int) (n : Nat) (ps : List (List Int)) (made : List Move) (bs : List (List Int × Nat)) : Prop where
  nd : (bs.map (·.1)).Nodup
  ix : ∀ q b, (q, b) ∈ bs → b ≤ made.length ∧ ps[n + b]? = some q
  sv : ∀ q b, (q, b) ∈ bs → ∀ d ∈ ds, Served rs n ps made d b
  ln : made.length ≤ ds.length * bs.length
theorem lookup_mem {bs : List (List Int × Nat)} {p : List Int} {b : Nat} : bs.lookup p = some b → (p, b) ∈ bs := by
  induction bs with
  | nil => intro h; cases h
  | cons a L ih =>
    obtain ⟨q, c⟩ := a
    intro h
    rw [List.lookup_cons] at h
    by_cases e : (p == q) = true
    · rw [e] at h
      have : p = q := by simpa using e
      subst this
      cases h
      exact List.mem_cons_self
    · have e' : (p == q) = false := by simpa using e
      rw [e'] at h
      exact List.mem_cons_of_mem _ (ih h)
/-- the loop that was found is fair -/
theorem BsOk.fair {rs : List Rw} {ds : List Int} {n : Nat} {ps : List (List Int)} {made : List Move} {bs : List (List Int × Nat)} {p : List Int} {b : Nat} (h : BsOk rs ds n ps made bs) (hb : bs.lookup p = some b) (lp : ps.length = n + made.length + 1) (hl : ps.getLast? = some p) :
    isFairB rs ds (ps.drop (n + b)) (made.drop b) = true := by
  have hm := lookup_mem hb
  have ix := h.ix p b hm
  have g0 : (ps.drop (n + b))[0]? = some p := by rw [List.getElem?_drop, Nat.add_zero]; exact ix.2
  have gl : (ps.drop (n + b)).getLast? = some p := by rw [List.getLast?_drop, if_neg (by omega)]; exact hl
  unfold isFairB
  rw [g0, gl, decide_eq_true rfl, Bool.true_and, fairB_all, List.all_eq_true]
  intro d hd
  obtain ⟨i, bi, z⟩ := h.sv p b hm d hd
  unfold goodH
  rcases z with ⟨q, hq, na⟩ | ⟨m, hm2, tk⟩
  · have : allAble rs (ps.drop (n + b)) d = false := by
      unfold allAble
      rw [List.all_eq_false]
      refine ⟨q, List.mem_iff_getElem?.mpr ⟨i - b, ?_⟩, by simpa using na⟩
      rw [List.getElem?_drop, show n + b + (i - b) = n + i by omega]; exact hq
    rw [this]; rfl
  · have : takesB (made.drop b) d.toNat = true := by
      unfold takesB
      rw [List.any_eq_true]
      refine ⟨m, List.mem_iff_getElem?.mpr ⟨i - b, ?_⟩, tk⟩
      rw [List.getElem?_drop, show b + (i - b) = i by omega]; exact hm2
    rw [this]; simp
end Sd
namespace Sd
open PySem PySem.Spec PyProof.Rows L2
end Sd
namespace Sd
open PySem PySem.Spec PyProof.Rows L2
theorem dT_nt {kvs : List (List L2.Key × V)} : (∀ ys, HO.dT kvs ≠ .tup ys) ∧ ∀ v w, HO.dT kvs ≠ .frz v w := ⟨(fun ys z => by cases z), fun v w z => by cases z⟩
theorem MoveAt.updO {K : PySem.W.Frag} {H : Hp} {p : Addr} {o u : HO} {v : V} {l : Move} (hp : H p = some o) (nt : (∀ ys, o ≠ .tup ys) ∧ ∀ v w, o ≠ .frz v w) (h : MoveAt K H v l) : MoveAt K (L2.upd H p u) v l := let ⟨a, b, e, z, y⟩ := h; ⟨a, b, e, sqT_upd hp nt.1 nt.2 z, sqT_upd hp nt.1 nt.2 y⟩
theorem StAt.updO {K : PySem.W.Frag} {H : Hp} {p : Addr} {o u : HO} {v : V} {l : List Int} (hp : H p = some o) (nt : ∀ ys, o ≠ .tup ys) (h : StAt K H v l) : StAt K (L2.upd H p u) v l := let ⟨b, e, z⟩ := h; ⟨b, e, by rw [upd_ne (ne_of z hp (Ne.symm (nt _)))]; exact z⟩
def keyI (q : List Int) : List L2.Key := q.map .inl
def encB (bs : List (List Int × Nat)) : List (List L2.Key × V) := bs.map fun e => (keyI e.1, V.int (e.2 : Int))
/-- what fair_run holds while it goes round -/
structure FrAt (g : Ga) (B H : Hp) (md bg : Addr) (u : V) (made : List Move) (p : List Int) (bs : List (List Int × Nat)) : Prop where
  sm : Same B H
  mv : ∃ vs, H md = some (.lst vs) ∧ Paired (MoveAt g.K H) vs made
  dc : H bg = some (.dT (encB bs))
  st : StAt g.K H u p
theorem FrAt.mono {g : Ga} {B H H' : Hp} {md bg : Addr} {u : V} {made : List Move} {p : List Int} {bs : List (List Int × Nat)} (s : Same H H') (h : FrAt g B H md bg u made p bs) : FrAt g B H' md bg u made p bs := by
  obtain ⟨vs, a, b⟩ := h.mv
  exact ⟨h.sm.trans s, ⟨vs, s _ _ a, paired_mono (fun _ _ z => z.mono s) b⟩, s _ _ h.dc, h.st.mono s⟩
theorem FrAt.put {g : Ga} {B H : Hp} {md bg : Addr} {u : V} {made : List Move} {p q : List Int} {n : Nat} {bs : List (List Int × Nat)} (nb : B bg = none) (h : FrAt g B H md bg u made p bs) : FrAt g B (upd H bg (.dT (encB (bs ++ [(q, n)])))) md bg u made p (bs ++ [(q, n)]) := by
  obtain ⟨vs, a, b⟩ := h.mv
  have ne : md ≠ bg := ne_of a h.dc (fun z => by cases z)
  exact ⟨Same.own h.sm nb, ⟨vs, by rw [upd_ne ne]; exact a, paired_mono (fun _ _ z => z.updO h.dc dT_nt) b⟩, upd_same, h.st.updO h.dc dT_nt.1⟩
end Sd
namespace Sd
open PySem PySem.Spec PyProof.Rows L2
theorem Fnd.whole {L : List Step} {s0 : Int} {ns : List Int} (h : Fnd L s0 ns) (c : Closed L ns) : ns.length = (reachL L s0).length := by
  refine Nat.le_antisymm h.le (nodup_leG _ _ ?_ fun x hx => ?_)
  · exact ascI_nodup (asc_reachL L s0)
  · exact (h.all c x).mpr (mem_reachL.mp hx)
end Sd
namespace Sd
open PySem PySem.Spec PyProof.Rows L2
end Sd
namespace Sd
open PySem PySem.Spec PyProof.Rows L2
theorem WalkOk.names {zs : List Str} {mh mw mt : Nat} {rs : List Rw} {ks : List Int} {ps : List (List Int)} {ms : List Move} (wk : WalkOk rs ps ms) (dr : DrawnRows zs mh mw mt rs ks) : ∀ m ∈ ms, IsName m.1 := fun m hm => by
  obtain ⟨k, hk⟩ := List.mem_iff_getElem?.mp hm
  have kl := (List.getElem?_eq_some_iff.mp hk).1
  have wl := wk.len
  have hp2 : ps[k]? = some (ps[k]'(by omega)) := List.getElem?_eq_getElem _
  exact dr.names (moves_word (wk.mv k m _ hk hp2))
structure H1At (g : Ga) (B : Hp) (rl cl rt x t st lo : Addr) (zs : List Str) (rs : List Rw) (ks : List Int) (us us1 us2 : List V) (ms made : List Move) (b : Nat) (ps ps' : List (List Int)) : Prop where
  hr : RowsAt g B rl rs
  hcl : B cl = some (.lst (ks.map V.int))
  dr : DrawnRows zs 3 4 3 rs ks
  hu : SqT g.K B rt us
  hm : Paired (MoveAt g.K B) us ms
  wk : WalkOk rs ps ms
  few : ms.length ≤ 1000
  hx : SysAt g B x rs ks
  fr : ∃ p, ps.getLast? = some p ∧ (made, b) = frun rs ks p
  ht : B t = some (.tup [.ref st, .ref lo])
  hst : SqT g.K B st us1
  hlo : SqT g.K B lo us2
  m1 : Paired (MoveAt g.K B) us1 (ms ++ made.take b)
  m2 : Paired (MoveAt g.K B) us2 (made.drop b)
  wk2 : WalkOk rs ps' (ms ++ made)
  bm : b ≤ made.length
  ml : made.length ≤ 4 * cartN rs
  ml2 : made.length ≤ 324
  fair : isFairB rs ks (ps'.drop (ms.length + b)) (made.drop b) = true
theorem H1At.mono {g : Ga} {B H : Hp} {rl cl rt x t st lo : Addr} {zs : List Str} {rs : List Rw} {ks : List Int} {us us1 us2 : List V} {ms made : List Move} {b : Nat} {ps ps' : List (List Int)} (s : Same B H) (h : H1At g B rl cl rt x t st lo zs rs ks us us1 us2 ms made b ps ps') : H1At g H rl cl rt x t st lo zs rs ks us us1 us2 ms made b ps ps' :=
  ⟨h.hr.mono s, s _ _ h.hcl, h.dr, Same.tup s h.hu, paired_mono (fun _ _ z => z.mono s) h.hm, h.wk, h.few, h.hx.mono s, h.fr, s _ _ h.ht, Same.tup s h.hst, Same.tup s h.hlo, paired_mono (fun _ _ z => z.mono s) h.m1, paired_mono (fun _ _ z => z.mono s) h.m2, h.wk2, h.bm, h.ml, h.ml2, h.fair⟩
end Sd
namespace Sd
open PySem PySem.Spec PyProof.Rows L2
end Sd
namespace Sd
open PySem PySem.Spec PyProof.Rows L2
theorem tuple_mulS (l : Addr) (items : Array Value) (n : Nat) (dd : Option Addr) (sl : Array (Option Value)) (x : Int) (u : Tok) (c0 : (decide (x < -(2 ^ 63)) || decide (x ≥ 2 ^ 63)) = false) (c1 : (items.isEmpty || x == 1) = true) :
    Meets (Builtin.«tuple.__mul__» ⟨[.ref l, .int x u], []⟩) (fun _ R s => s.heap.get? l = some { cls := .type "tuple", dict := dd, data := .seq items n, slots := sl } ∧ R (.ok (.ret (Value.ref l))) s) :=
  .of_wp fun prog w A R s h => by
    obtain ⟨hp, g, d, tk, os⟩ := s
    obtain ⟨hl, h⟩ := h
    have f1 := AutoSeq1.idx_int
    wp_walk using wpAny_loadPart' hl
    repeat (first
      | (refine wpAny_ite_false (decide_eq_false (by rw [c0]; exact Bool.false_ne_true)) ?_; wp_walk using wpAny_loadPart' hl)
      | (refine wpAny_ite_true (decide_eq_true c1) ?_; wp_walk using wpAny_loadPart' hl))
    exact ⟨_, rfl, h⟩
def rRepA (K : PySem.W.Frag) : R2 := fun x y H Q => ∃ l k xs, x = .ref l ∧ y = .int k ∧ SqT K H l xs ∧ 1 ≤ k ∧ k ≤ 100000 ∧ xs.length * k.toNat ≤ 100000 ∧ (k = 1 ∨ xs = [] → Q (.ref l) H) ∧ (2 ≤ k → xs ≠ [] → ∀ p, H p = none → Q (.ref p) (upd H p (.tup (List.replicate k.toNat xs).flatten)))
section
variable {X : Cx}
theorem o_repA : OpR X (binaryOp .Mult) (rRepA X.K) := by
  intro pins s σ H x y v u Q I rx ry h
  obtain ⟨l, k, xs, rfl, rfl, hT, h1, h2, hz, q0, q1⟩ := h
  cases rx
  obtain ⟨t, rfl⟩ := ry
  obtain ⟨its, r, ⟨⟨cls, dd, data, sl⟩, ho, hc, n, hd⟩, hs⟩ := I.tuple hT
  simp only at hc hd
  subst hc hd
  have hle : its.length = xs.length := r.length.symm
  have c0 : (decide (k < -(2 ^ 63)) || decide (k ≥ 2 ^ 63)) = false := by
    rw [decide_eq_false (by omega), decide_eq_false (by omega)] <;> rfl
  by_cases same : k = 1 ∨ xs = []
  · have c1 : (its.toArray.isEmpty || k == 1) = true := by
      rcases same with e | e
      · rw [e]; simp
      · rw [e] at hle
        have : its = [] := List.eq_nil_of_length_eq_zero hle
        rw [this]; rfl
    refine wpAny_binaryOp_repeat_ref (T := "tuple") (U := "int") (by decide) ⟨_, ho, rfl⟩ (fun s' => typeIs_int s' k t) noFill_tuple_mul F.fills_int_mul F.slot_int_rmul repeat_tuple F.slot_int_index.lookup
      (call_meets F.slot_int_rmul (typeIs_int s k t) F.entry_int_rmul (F.args_int_rmul_2 _ _) (int_rmul_tuple k t l its.toArray n dd sl)
        ⟨ho, rfl, ⟨_, ho, rfl⟩, call_meets F.slot_tuple_mul ⟨_, ho, rfl⟩ F.entry_tuple_mul (F.args_tuple_mul_2 _ _) (tuple_mulS l its.toArray n dd sl k t c0 c1) ⟨ho, ?_⟩⟩)
    exact ⟨.ref l, H, I, rfl, q0 same⟩
  · have k2 : 2 ≤ k := by
      have : k ≠ 1 := fun e => same (.inl e)
      omega
    have hne : xs ≠ [] := fun e => same (.inr e)
    have hn : its ≠ [] := fun e => hne (by
      rw [e] at hle
      exact List.eq_nil_of_length_eq_zero hle.symm)
    have hi : its.toArray.isEmpty = false := by
      cases its with
      | nil => exact absurd rfl hn
      | cons a b => rfl
    have hsz0 : its.toArray.size = xs.length := by rw [List.size_toArray, hle]
    have hm : ((its.toArray.size : Nat) : Int) * k ≤ 1000000 := by
      rw [hsz0]
      have e : ((xs.length : Nat) : Int) * k = ((xs.length * k.toNat : Nat) : Int) := by rw [Int.natCast_mul, Int.toNat_of_nonneg (by omega)]
      rw [e]; omega
    have flen : (List.replicate k.toNat its).flatten.length ≤ sizeLine := by
      rw [PyProof.Rows.lm_len_rep_flat, hle, sizeLine_eq, Nat.mul_comm]
      omega
    have c1 : (its.toArray.isEmpty || k == 1) = false := by
      rw [hi, Bool.false_or]
      exact beq_eq_false_iff_ne.mpr (by omega)
    have c2 : (decide (k ≤ 0) || its.toArray.isEmpty) = false := by
      rw [hi, Bool.or_false]
      exact decide_eq_false (by omega)
    have c4 : Builtin.Tuple.tupleTooMany (((its.toArray.size : Nat) : Int) * k) = false := by
      unfold Builtin.Tuple.tupleTooMany
      rw [sizeLine_eq]
      exact decide_eq_false (by omega)
    refine wpAny_binaryOp_repeat_ref (T := "tuple") (U := "int") (by decide) ⟨_, ho, rfl⟩ (fun s' => typeIs_int s' k t) noFill_tuple_mul F.fills_int_mul F.slot_int_rmul repeat_tuple F.slot_int_index.lookup
      (call_meets F.slot_int_rmul (typeIs_int s k t) F.entry_int_rmul (F.args_int_rmul_2 _ _) (int_rmul_tuple k t l its.toArray n dd sl)
        ⟨ho, rfl, ⟨_, ho, rfl⟩, call_meets F.slot_tuple_mul ⟨_, ho, rfl⟩ F.entry_tuple_mul (F.args_tuple_mul_2 _ _) (tuple_mulW l its.toArray n dd sl k t c0 c1 c2 (by omega) c4 (by rw [size_rep, List.size_toArray]; exact flen)) ⟨ho, ?_⟩⟩)
    rw [size_rep]
    refine ⟨.ref s.heap.objs.size, _, I.laid (t' := s.toks) (o := .tup (List.replicate k.toNat xs).flatten) (fun b ob q => Heap.get?_push_of_some _ q) (Nat.le_refl _) ?_, rfl, q1 k2 hne _ (I.hok.fresh (Nat.le_refl _))⟩
    exact ⟨by rw [PyProof.Rows.lm_len_rep_flat, sizeLine_eq, Nat.mul_comm]; omega, _, r.rep k.toNat, IsTup.new _ _⟩
end
end Sd
namespace Sd
open PySem PySem.Spec PyProof.Rows L2
def endP (rs : List Rw) : List Int → List Move → List Int
  | p, [] => p
  | p, m :: ms => endP rs (behindOf rs p m.2) ms
def plP (rs : List Rw) : List Int → List Move → List (List Int)
  | p, [] => [p]
  | p, m :: ms => p :: plP rs (behindOf rs p m.2) ms
def OkP (rs : List Rw) : List Int → List Move → Prop
  | _, [] => True
  | p, m :: ms => m ∈ movesOf rs p ∧ OkP rs (behindOf rs p m.2) ms
theorem endP_cons (rs : List Rw) (p : List Int) (m : Move) (ms : List Move) : endP rs p (m :: ms) = endP rs (behindOf rs p m.2) ms := rfl
theorem plP_cons (rs : List Rw) (p : List Int) (m : Move) (ms : List Move) : plP rs p (m :: ms) = p :: plP rs (behindOf rs p m.2) ms := rfl
theorem OkP_cons (rs : List Rw) (p : List Int) (m : Move) (ms : List Move) : OkP rs p (m :: ms) = (m ∈ movesOf rs p ∧ OkP rs (behindOf rs p m.2) ms) := rfl
theorem plP_hd (rs : List Rw) (p : List Int) (ms : List Move) : (plP rs p ms)[0]? = some p := by cases ms <;> rfl
theorem endP_app (rs : List Rw) : ∀ (a b : List Move) (p : List Int), endP rs p (a ++ b) = endP rs (endP rs p a) b
  | [], b, p => rfl
  | m :: a, b, p => by
    rw [List.cons_append, endP_cons, endP_cons]
    exact endP_app rs a b _
theorem OkP_app (rs : List Rw) : ∀ (a b : List Move) (p : List Int), OkP rs p (a ++ b) ↔ OkP rs p a ∧ OkP rs (endP rs p a) b
  | [], b, p => ⟨fun h => ⟨trivial, h⟩, fun h => h.2⟩
  | m :: a, b, p => by
    rw [List.cons_append, OkP_cons, OkP_cons, endP_cons, OkP_app rs a b]
    exact and_assoc.symm
theorem mem_plP_app (rs : List Rw) (q : List Int) : ∀ (a b : List Move) (p : List Int), q ∈ plP rs p (a ++ b) ↔ q ∈ plP rs p a ∨ q ∈ plP rs (endP rs p a) b
  | [], b, p => by
    show q ∈ plP rs p b ↔ q ∈ [p] ∨ q ∈ plP rs p b
    refine ⟨.inr, fun h => h.elim (fun h => ?_) id⟩
    rw [List.mem_singleton.mp h]
    exact List.mem_of_getElem? (plP_hd rs p b)
  | m :: a, b, p => by
    rw [List.cons_append, plP_cons, plP_cons, endP_cons, List.mem_cons, List.mem_cons, mem_plP_app rs q a b, or_assoc]
theorem OkP.get {rs : List Rw} : ∀ {ms : List Move} {p : List Int} (k : Nat) (m : Move) (q : List Int), OkP rs p ms → ms[k]? = some m → (plP rs p ms)[k]? = some q → m ∈ movesOf rs q ∧ (plP rs p ms)[k + 1]? = some (behindOf rs q m.2)
  | [], p, k, m, q, _, h, _ => by simp at h
  | m0 :: ms, p, 0, m, q, ok, h, hq => by
    simp at h
    subst h
    unfold plP at hq ⊢
    simp at hq
    subst hq
    exact ⟨ok.1, by rw [List.getElem?_cons_succ]; exact plP_hd rs _ ms⟩
  | m0 :: ms, p, k + 1, m, q, ok, h, hq => by
    unfold plP at hq ⊢
    rw [List.getElem?_cons_succ] at h hq ⊢
    exact OkP.get k m q ok.2 h hq
def repM (n : Nat) (l : List Move) : List Move := (List.replicate n l).flatten
theorem repM_succ (n : Nat) (l : List Move) : repM (n + 1) l = l ++ repM n l := by unfold repM; rw [List.replicate_succ, List.flatten_cons]
theorem rep_ok {rs : List Rw} {p : List Int} {l : List Move} (ok : OkP rs p l) (e : endP rs p l = p) : ∀ n : Nat, OkP rs p (repM n l) ∧ endP rs p (repM n l) = p
  | 0 => ⟨trivial, rfl⟩
  | n + 1 => by
    obtain ⟨h1, h2⟩ := rep_ok ok e n
    rw [repM_succ, OkP_app, endP_app, e]
    exact ⟨⟨ok, h1⟩, h2⟩
theorem rep_mem {rs : List Rw} {p : List Int} {l : List Move} (e : endP rs p l = p) (q : List Int) : ∀ n : Nat, q ∈ plP rs p (repM (n + 1) l) ↔ q ∈ plP rs p l
  | 0 => by rw [repM_succ]; show q ∈ plP rs p (l ++ []) ↔ _; rw [List.append_nil]
  | n + 1 => by
    rw [repM_succ, mem_plP_app, e, rep_mem e q n]
    exact ⟨fun h => h.elim id id, .inl⟩
theorem takesB_app (a b : List Move) (h : Nat) : takesB (a ++ b) h = (takesB a h || takesB b h) := by unfold takesB; rw [List.any_append]
theorem rep_takes (l : List Move) (h : Nat) : ∀ n : Nat, takesB (repM (n + 1) l) h = takesB l h
  | 0 => by rw [repM_succ]; show takesB (l ++ []) h = _; rw [List.append_nil]
  | n + 1 => by rw [repM_succ, takesB_app, rep_takes l h n, Bool.or_self]
/-- the loop b' from r goes the way of the loop b from p -/
structure SameLoop (rs : List Rw) (p : List Int) (b : List Move) (r : List Int) (b' : List Move) : Prop where
  ok : OkP rs r b'
  back : endP rs r b' = r
  mem : ∀ q, q ∈ plP rs r b' ↔ q ∈ plP rs p b
  tk : ∀ h, takesB b' h = takesB b h
theorem SameLoop.rep {rs : List Rw} {p : List Int} {b : List Move} (ok : OkP rs p b) (e : endP rs p b = p) (n : Nat) : SameLoop rs p b p (repM (n + 1) b) := ⟨(rep_ok ok e _).1, (rep_ok ok e _).2, fun q => rep_mem e q n, fun h => rep_takes b h n⟩
end Sd
namespace Sd
open PySem PySem.Spec PyProof.Rows L2
end Sd
namespace Sd
open PySem PySem.Spec PyProof.Rows L2
end Sd
namespace Sd
open PySem PySem.Spec PyProof.Rows L2
theorem numbers_le' {L : List Step} (fb : firstBad (L.map some) [] 0 = none) (st : Int) (w : Str) : (numbersOf L st w).length ≤ 4 := by
  unfold numbersOf
  split
  · rw [List.length_map]
    have h1 := hits_le st w L L.length
    have h2 := firstBad_leaving (s := st) L [] 0 fb (by simp [leavingN])
    rw [List.take_length] at h1
    rw [List.nil_append] at h2
    exact Nat.le_trans h1 h2
  · simp
theorem SysRows.small {rs : List Rw} {ks : List Int} (h : SysRows rs ks) : SmallR rs := ⟨h.n4, h.w12, fun r hr st w => numbers_le' (h.fb r hr) st w, fun r hr => by have := h.l2 r hr; omega⟩
end Sd
namespace Sd
open PySem PySem.Spec PyProof.Rows L2
end Sd
namespace Sd
open PySem PySem.Spec PyProof.Rows L2
end Sd
namespace Sd
open PySem PySem.Spec PyProof.Rows L2
theorem stepL_prod (ls : List (List (Option Int))) (ns : List (Option Int)) : (stepL ls ns).length = ls.length * ns.length := by
  unfold stepL
  exact flat_const (fun a => by rw [List.length_map]) _
theorem lines_take {nums : List (List (Option Int))} {i : Nat} {n : List (Option Int)} (h : nums[i]? = some n) : (linesOf (nums.take (i + 1))).length = (linesOf (nums.take i)).length * n.length := by
  rw [List.take_add_one, h, Option.toList_some, linesOf_snoc, stepL_prod]
theorem lines_pow {nums : List (List (Option Int))} (h4 : ∀ n ∈ nums, n.length ≤ 4) : ∀ i : Nat, (linesOf (nums.take i)).length ≤ 4 ^ i
  | 0 => by simp [linesOf]
  | i + 1 => by
    have ih := lines_pow h4 i
    cases e : nums[i]? with
    | none =>
      have ll : nums.length ≤ i := List.getElem?_eq_none_iff.mp e
      rw [List.take_of_length_le (by omega)]
      rw [List.take_of_length_le ll] at ih
      exact Nat.le_trans ih (Nat.pow_le_pow_right (by decide) (by omega))
    | some n =>
      rw [lines_take e, Nat.pow_succ]
      exact Nat.mul_le_mul ih (h4 n (List.mem_of_getElem? e))
theorem nums_four {rs : List Rw} (sm : SmallR rs) {p : List Int} (pl : p.length = rs.length) (w : Str) : ∀ n ∈ numsAt rs p w, n.length ≤ 4 := fun n hn => by
  obtain ⟨j, hj⟩ := List.mem_iff_getElem?.mp hn
  have jl := (List.getElem?_eq_some_iff.mp hj).1
  rw [nums_len pl] at jl
  have hr : rs[j]? = some rs[j] := List.getElem?_eq_getElem jl
  rw [nums_at hr (List.getElem?_eq_getElem (show j < p.length by omega))] at hj
  cases hj
  exact sm.nu _ (List.mem_of_getElem? hr) _ _
theorem movesW64 {rs : List Rw} (sm : SmallR rs) (n3 : rs.length ≤ 3) {p : List Int} (pl : p.length = rs.length) (w : Str) : (movesW rs p w).length ≤ 64 := by
  unfold movesW
  rw [List.length_map]
  have := lines_pow (nums_four sm pl w) rs.length
  rw [List.take_of_length_le (by rw [nums_len pl]; omega)] at this
  exact Nat.le_trans this (Nat.le_trans (Nat.pow_le_pow_right (by decide) n3) (by decide))
theorem flat64 {rs : List Rw} (sm : SmallR rs) (n3 : rs.length ≤ 3) {p : List Int} (pl : p.length = rs.length) : ∀ ws : List Str, (ws.flatMap (movesW rs p)).length ≤ 64 * ws.length
  | [] => by simp
  | w :: ws => by
    have h1 := flat64 sm n3 pl ws
    have h2 := movesW64 sm n3 pl w
    rw [List.flatMap_cons, List.length_append, List.length_cons]
    omega
end Sd
namespace Sd
open PySem PySem.Spec PyProof.Rows L2
end Sd
namespace Sd
open PySem PySem.Spec PyProof.Rows L2
structure H8 (g : Ga) (B : Hp) (x rl D : Addr) (u : V) (vs : List V) (zs : List Str) (rs : List Rw) (ks p : List Int) : Prop where
  hx : SysAt g B x rs ks
  hr : RowsAt g B rl rs
  dr : DrawnRows zs 3 4 3 rs ks
  hu : StAt g.K B u p
  st : StandI rs p
  hD : B D = some (.lst vs)
  hv : Paired (MoveAt g.K B) vs (movesOf rs p)
theorem H8.mono {g : Ga} {B H : Hp} {x rl D : Addr} {u : V} {vs : List V} {zs : List Str} {rs : List Rw} {ks p : List Int} (s : Same B H) (h : H8 g B x rl D u vs zs rs ks p) : H8 g H x rl D u vs zs rs ks p := ⟨h.hx.mono s, h.hr.mono s, h.dr, h.hu.mono s, h.st, s _ _ h.hD, paired_mono (fun _ _ z => z.mono s) h.hv⟩
theorem H8.few {g : Ga} {B : Hp} {x rl D : Addr} {u : V} {vs : List V} {zs : List Str} {rs : List Rw} {ks p : List Int} (h : H8 g B x rl D u vs zs rs ks p) : (movesOf rs p).length ≤ 256 := by
  have h1 := flat64 (h.dr.small (by decide) (by decide)) h.dr.n2 h.st.len (sysWords rs)
  have h2 := sysWords_le h.dr.ok
  have h3 := h.dr.zl
  unfold movesOf
  omega
end Sd
namespace Sd
open PySem PySem.Spec PyProof.Rows L2
end Sd
namespace Sd
open PySem PySem.Spec PyProof.Rows L2
end Sd
namespace Sd
open PySem PySem.Spec PyProof.Rows L2
/-- what the layer asks of a class with an own ==: where its def stands, and its promise -/
structure CalQ (g : Ga) (mg : Str → Option Value) (base : Heap) (lv : Nat) (C : Str) (ps : List Str) (sp : Sp) : Prop where
  ex : ∃ f fd, FnOk g.P g.w g.K mg base (L2.CX g.P g.w) lv f fd ps sp ∧ PySem.W.findIn g.K (.ref (g.c C)) "__eq__" = some (some (.ref f)) ∧ PySem.W.isFn g.K (.ref f) = true ∧ Binds g.K fd ps []
def rEqO (K : PySem.W.Frag) (C : Addr) (sp : Sp) : R2 := fun x y H Q => ∃ (a dx : Addr) (fs : List (Str × V)) (t : Value), x = .ref a ∧ H a = some (.ins C dx fs) ∧ TyX K H y t ∧ PySem.W.notFirst K C t = true ∧ sp [.ref a, y] H (fun v H1 => ∃ b, v = .bl b ∧ Q (.bl b) H1) E0
/-- the namespace of a plain own class: all keys are texts, it has its own == and no own != -/
def neB (K : PySem.W.Frag) (C : Addr) : Bool := match K.lookup C with
  | some ⟨.type "type", _, .cls cd, sl⟩ => (match cd.mro, sl.toList, K.lookup cd.ns with
    | [.ref C', .type "object"], [_, _, _, _, some (.builtin _), _], some ⟨_, _, .dict es _, _⟩ => decide (C' = C) && (!cd.hasDel && (PySem.W.kmod_keyed es && ((es.toList.find? (·.key.isStr "__ne__")).isNone && (es.toList.find? (·.key.isStr "__eq__")).isSome)))
    | _, _, _ => false)
  | _ => false
theorem nsFind_eq (es : Array DictEntry) (n : Str) : nsFind es n = (es.toList.find? (·.key.isStr n)).map (·.val) := by
  unfold nsFind findBy
  rw [← Array.find?_toList]
theorem neB_ok {K : PySem.W.Frag} {C f : Addr} (q : neB K C = true) (hf : PySem.W.findIn K (.ref C) "__eq__" = some (some (.ref f))) : ∃ nm q N bs hd sn sub ab col dd k0 k1 k2 k3 k5 n oN es ep, K.lookup C = some (excClassObj nm q C N bs [.type "object"] hd sn sub ab col dd k0 k1 k2 k3 k5 n) ∧
    K.lookup N = some oN ∧ oN.data = .dict es ep ∧ StrKeys es ∧ nsFind es "__eq__" = some (.ref f) ∧ nsFind es "__ne__" = none := by
  unfold neB at q
  split at q
  · rename_i dd cd sl ho
    split at q
    · rename_i C' k0 k1 k2 k3 n k5 c2 d2 es ep sl2 hm hs hN
      obtain ⟨q1, q⟩ := Bool.and_eq_true_iff.mp q
      obtain ⟨q3, q⟩ := Bool.and_eq_true_iff.mp q
      obtain ⟨q4, q⟩ := Bool.and_eq_true_iff.mp q
      obtain ⟨q5, q6⟩ := Bool.and_eq_true_iff.mp q
      have e1 := of_decide_eq_true q1
      subst e1
      obtain ⟨nm, bs, mro, ns, qn, hd, sn, sub, ab, col, del⟩ := cd
      dsimp only at hm q3 q4 hN
      have e3 : del = false := by cases del <;> simp_all
      subst hm e3
      have hsl : sl = #[k0, k1, k2, k3, some (.builtin n), k5] := by
        obtain ⟨l⟩ := sl
        simp only at hs
        rw [hs]
      subst hsl
      refine ⟨nm, qn, ns, bs, hd, sn, sub, ab, col, dd, k0, k1, k2, k3, k5, n, _, es, ep, ho, hN, rfl, fun en' he => ?_, ?_, ?_⟩
      · have hx := List.all_eq_true.mp q4 en' (Array.mem_toList_iff.mpr he)
        revert hx
        cases en'.key <;> intro hx <;> first | exact ⟨_, _, rfl⟩ | cases hx
      · rw [nsFind_eq]
        simp only [PySem.W.findIn, ho, PySem.W.alongIn, PySem.W.ownIn, PySem.W.nsIn, hN] at hf
        cases hE : es.toList.find? (·.key.isStr "__eq__") with
        | none => rw [hE] at q6; cases q6
        | some en =>
          rw [hE] at hf
          simp only at hf
          exact Option.some.inj hf
      · rw [nsFind_eq, Option.isNone_iff_eq_none.mp q5]
        rfl
    · cases q
  · cases q
section
variable {X : Cx} {lv : Nat} {C : Str} {ps : List Str} {sp : Sp}
theorem o_eqO (c : CalQ (gX X) X.mg X.base lv C ps sp) (hr : Room lv X.A) : OpR X (compareOp .Eq) (rEqO X.K ((gX X).c C) sp) := by
  obtain ⟨f, fd, F, hs, hf, hb⟩ := c.ex
  intro pins s σ H x y v u Q I rx ry h
  obtain ⟨a, dx, fs, t, rfl, ha, ty, nf, hsp⟩ := h
  cases rx
  show wpAny (model X.prog X.w) X.A (richCompare .Eq (.ref a) u) (EP X pins σ Q) X.xe s
  obtain ⟨mA, J, _⟩ := ins_get I.hok ha
  obtain ⟨od, J, _⟩ := J.look
  obtain ⟨m, hF⟩ := I.fr
  obtain ⟨P, kx, hP, _⟩ := kit_of I ry ty
  refine PySem.W.cmp_K (op := .Eq) (tb := t) hr.units0 hF I.ok.mod.kin J (kx.ty _ _ I.kIn hP) nf hs hf ?_
  have r2 : Vals [V.ref a, y] [Value.ref a, u] := .cons rfl (.cons ry .nil)
  refine wpAny_mono (run_fn (dvs := []) (ds := []) (E := E0) F hr hb .nil passL I r2 (by rw [List.append_nil]; exact hsp)) (fun w s' q => ?_) fun _ _ z => z
  obtain ⟨z, H1, I1, rz, b, rfl, q⟩ := q
  cases rz
  exact ⟨.bl b, H1, I1, rfl, q⟩
/-- a call from somewhere below the running body -/
theorem run_sub {n : Nat} {A : Around} {f : Addr} {fd : FuncData} {pins : List (Addr × Obj)} {σ : L2.St} {H : Hp} {s : Shared} {Q : VK} {us : List Value} {vs : List V} {CX : CXT} {E : XK} (F : FnOk X.prog X.w X.K X.mg X.base CX n f fd ps sp) (sb : Sub X n A) (hb : Binds X.K fd ps []) (hx : Passes CX X E)
    (I : Inv X pins σ H s) (r2 : Vals vs us) (hsp : sp vs H Q E) : wpAny (model X.prog X.w) A (call (.ref f) us) (EP X pins σ Q) X.xe s := by
  have e0 : Env0 X.prog X.w X.K X.mg X.base A X.stack s H := by
    have e := I.env0
    exact ⟨by rw [sb.fr]; exact e.frames, e.mod, e.bs, e.bsz, e.funs, e.frf, e.hok, e.bare⟩
  have hl := F.len _ _ _ _ hsp
  refine wpAny_call (codeAny_mono (F.run A X.stack s H ⟨us, []⟩ us vs _ E sb.room e0 (by
    have := hb s us I.kIn (by simpa using (r2.length.symm.trans hl))
    simpa using this) r2 hsp) fun r s' hq => ?_)
  cases r with
  | error e => exact hx pins σ H s e s' I hq
  | ok fl =>
    cases fl with
    | ret w => exact I.after hq
    | next => exact False.elim hq
    | brk => exact False.elim hq
    | cont => exact False.elim hq
end
end Sd
namespace Sd
open PySem PySem.Spec PyProof.Rows L2
theorem CalN.calQ {g : Ga} {mg : Str → Option Value} {base : Heap} {lv : Nat} {C : Str} {ps : List Str} {sp : Sp} (c : CalN g mg base lv C "__eq__" ps [] sp) : CalQ g mg base lv C ps sp := by
  obtain ⟨f, fd, ds, cl, M, F, hb, hv⟩ := c.ex
  cases hv
  exact ⟨f, fd, F, M.at_, M.fn, hb⟩
theorem firstBad_iff : ∀ (L kept : List Step) (i : Nat), (∀ s, leavingN kept s ≤ 4) → (firstBad (L.map some) kept i = none ↔ L.Nodup ∧ (∀ s ∈ L, s ∉ kept) ∧ ∀ s, leavingN (kept ++ L) s ≤ 4)
  | [], kept, i, hk => by simp [firstBad]; exact hk
  | t :: r, kept, i, hk => by
    rw [List.map_cons]
    unfold firstBad
    have lc : ∀ s, leavingN (kept ++ [t]) s = leavingN kept s + (if t.1 = s then 1 else 0) := fun s => by
      unfold leavingN
      rw [List.filter_append, List.length_append]
      congr 1
      by_cases e : t.1 = s <;> simp [e]
    have lm : ∀ s, leavingN (kept ++ [t]) s ≤ leavingN (kept ++ t :: r) s := fun s => by
      unfold leavingN
      rw [show kept ++ t :: r = (kept ++ [t]) ++ r by simp, List.filter_append (kept ++ [t]) r, List.length_append]
      exact Nat.le_add_right _ _
    by_cases c1 : t ∈ kept
    · rw [if_pos c1]
      exact ⟨(fun h => by cases h), fun h => absurd c1 (h.2.1 t List.mem_cons_self)⟩
    · rw [if_neg c1]
      by_cases c2 : leavingN kept t.1 = 4
      · rw [if_pos c2]
        refine ⟨(fun h => by cases h), fun h => ?_⟩
        have h1 := h.2.2 t.1
        have h2 := lm t.1
        rw [lc, if_pos rfl] at h2
        omega
      · rw [if_neg c2]
        have hk' : ∀ s, leavingN (kept ++ [t]) s ≤ 4 := fun s => by
          rw [lc]
          have := hk s
          split
          · rename_i e
            subst e
            omega
          · omega
        rw [firstBad_iff r (kept ++ [t]) (i + 1) hk']
        simp only [List.append_assoc, List.singleton_append, List.nodup_cons, List.mem_append, List.mem_singleton, List.mem_cons, forall_eq_or_imp]
        constructor
        · rintro ⟨h1, h2, h3⟩
          exact ⟨⟨fun m => h2 t m (.inr (.inl rfl)), h1⟩, ⟨c1, fun s hs m => h2 s hs (.inl m)⟩, h3⟩
        · rintro ⟨⟨h0, h1⟩, ⟨_, h2⟩, h3⟩
          refine ⟨h1, fun s hs m => ?_, h3⟩
          rcases m with m | m
          · exact h2 s hs m
          · rcases m with m | m
            · exact h0 (m ▸ hs)
            · cases m
theorem fb_iff (L : List Step) : firstBad (L.map some) [] 0 = none ↔ L.Nodup ∧ ∀ s, leavingN L s ≤ 4 := by
  rw [firstBad_iff L [] 0 (fun s => Nat.zero_le _)]
  simp
structure RwOk (r : Rw) : Prop where
  st : 0 ≤ r.1 ∧ r.1 ≤ 99
  ok : ∀ s ∈ r.2, okStep s
  fb : firstBad (r.2.map some) [] 0 = none
  l1 : 1 ≤ r.2.length
  l2 : r.2.length ≤ 24
  w8 : (wordsOf r.2).length ≤ 8
  r8 : (reachL r.2 r.1).length ≤ 8
end Sd
namespace Sd
open PySem PySem.Spec PyProof.Rows L2
theorem Drawn.rw {zs : List Str} {ss : List Int} {L : List Step} {s0 : Int} (d : Drawn zs ss L) (hz : ∀ z ∈ zs, IsName z) (hs : ∀ s ∈ ss, 0 ≤ s ∧ s ≤ 99) (z8 : zs.length ≤ 8) (s8 : ss.length ≤ 8) (h0 : s0 ∈ ss) (l1 : 1 ≤ L.length) (l2 : L.length ≤ 24) : RwOk (s0, L) :=
  ⟨hs _ h0, d.ok hz hs, d.fb, l1, l2, Nat.le_trans (words_le d.wd) z8, Nat.le_trans (reach_le h0 d.to) s8⟩
theorem Drawn.perm {zs : List Str} {ss : List Int} {L L' : List Step} (d : Drawn zs ss L) (p : L'.Perm L) : Drawn zs ss L' := by
  have f := (fb_iff L).mp d.fb
  refine ⟨(fb_iff L').mpr ⟨p.nodup_iff.mpr f.1, fun s => ?_⟩, fun s hs => d.wd s (p.mem_iff.mp hs), fun s hs => d.fr s (p.mem_iff.mp hs), fun s hs => d.to s (p.mem_iff.mp hs)⟩
  have : leavingN L' s = leavingN L s := by
    unfold leavingN
    exact (p.filter _).length_eq
  rw [this]; exact f.2 s
theorem Drawn.wide {zs zs' : List Str} {ss ss' : List Int} {L : List Step} (d : Drawn zs ss L) (hz : ∀ z ∈ zs, z ∈ zs') (hs : ∀ s ∈ ss, s ∈ ss') : Drawn zs' ss' L := ⟨d.fb, fun s m => hz _ (d.wd s m), fun s m => hs _ (d.fr s m), fun s m => hs _ (d.to s m)⟩
theorem Drawn.ins {zs : List Str} {ss : List Int} {L : List Step} {t : Step} (d : Drawn zs ss L) (h1 : t ∉ L) (h2 : leavingN L t.1 < 4) (hw : t.2.1 ∈ zs) (hf : t.1 ∈ ss) (ht : t.2.2 ∈ ss) (i : Nat) : Drawn zs ss (L.take i ++ [t] ++ L.drop i) := by
  refine (d.snoc h1 h2 hw hf ht).perm ?_
  have : (L.take i ++ [t] ++ L.drop i).Perm (L.take i ++ L.drop i ++ [t]) := by
    rw [List.append_assoc, List.append_assoc]
    exact List.Perm.append_left _ List.perm_append_comm
  rwa [List.take_append_drop] at this
/-- what the law may draw out of a good row -/
structure Fit (r : Rw) : Prop where
  ex : ∃ (zs : List Str) (ss : List Int), Drawn zs ss r.2 ∧ (∀ z ∈ zs, IsName z) ∧ (∀ s ∈ ss, 0 ≤ s ∧ s ≤ 97) ∧ zs.length ≤ 6 ∧ ss.length ≤ 6 ∧ r.1 ∈ ss
  l1 : 1 ≤ r.2.length
  l2 : r.2.length ≤ 24
theorem Fit.rw {r : Rw} (h : Fit r) : RwOk r := by
  obtain ⟨zs, ss, d, hz, hs, z8, s8, h0⟩ := h.ex
  exact d.rw hz (fun s m => ⟨(hs s m).1, by have := (hs s m).2; omega⟩) (by omega) (by omega) h0 h.l1 h.l2
theorem Fit.start {r : Rw} (h : Fit r) {i : Nat} {t : Step} (hi : r.2[i]? = some t) : RwOk (t.1, r.2) := by
  obtain ⟨zs, ss, d, hz, hs, z8, s8, h0⟩ := h.ex
  exact d.rw hz (fun s m => ⟨(hs s m).1, by have := (hs s m).2; omega⟩) (by omega) (by omega) (d.fr t (List.mem_of_getElem? hi)) h.l1 h.l2
theorem Fit.swap {r : Rw} (h : Fit r) {i j : Nat} {a b : Step} (hi : r.2[i]? = some a) (hj : r.2[j]? = some b) : RwOk (r.1, (r.2.set i b).set j a) := by
  obtain ⟨zs, ss, d, hz, hs, z8, s8, h0⟩ := h.ex
  obtain ⟨il, ei⟩ := List.getElem?_eq_some_iff.mp hi
  obtain ⟨jl, ej⟩ := List.getElem?_eq_some_iff.mp hj
  have p := List.set_set_perm (as := r.2) il jl
  rw [ei, ej] at p
  have l1 := h.l1
  have l2 := h.l2
  exact (d.perm p).rw hz (fun s m => ⟨(hs s m).1, by have := (hs s m).2; omega⟩) (by omega) (by omega) h0 (by rw [List.length_set, List.length_set]; exact l1) (by rw [List.length_set, List.length_set]; exact l2)
theorem zz_name : IsName "zz" := ⟨by decide +kernel, by decide +kernel, by decide +kernel⟩
theorem Fit.ins {r : Rw} (h : Fit r) (l : r.2.length < 24) (i : Nat) {d : Int} (d0 : 0 ≤ d) (d1 : d < 100) : RwOk (r.1, r.2.take i ++ [((99 : Int), ("zz" : Str), d)] ++ r.2.drop i) := by
  obtain ⟨zs, ss, dr, hz, hs, z8, s8, h0⟩ := h.ex
  have no : ∀ t ∈ r.2, t.1 ≠ 99 := fun t m e => by have := (hs _ (dr.fr t m)).2; omega
  have l9 : leavingN r.2 99 = 0 := by
    unfold leavingN
    rw [List.length_eq_zero_iff, List.filter_eq_nil_iff]
    intro t m
    simp [no t m]
  have w := (dr.wide (zs' := "zz" :: zs) (ss' := 99 :: d :: ss) (fun z m => List.mem_cons_of_mem _ m) (fun z m => List.mem_cons_of_mem _ (List.mem_cons_of_mem _ m))).ins (t := (99, "zz", d)) (fun m => no _ m rfl) (by rw [l9]; decide) List.mem_cons_self List.mem_cons_self (List.mem_cons_of_mem _ List.mem_cons_self) i
  refine w.rw (fun z m => ?_) (fun s m => ?_) (by rw [List.length_cons]; omega) (by rw [List.length_cons, List.length_cons]; omega) (List.mem_cons_of_mem _ (List.mem_cons_of_mem _ h0)) (by simp; omega) (by rw [List.length_append, List.length_append, List.length_take, List.length_drop, List.length_singleton]; omega)
  · rcases List.mem_cons.mp m with rfl | m
    · exact zz_name
    · exact hz z m
  · rcases List.mem_cons.mp m with rfl | m
    · decide
    · rcases List.mem_cons.mp m with rfl | m
      · omega
      · have := hs s m; omega
end Sd
namespace Sd
open PySem PySem.Spec PyProof.Rows L2
end Sd
namespace Sd
open PySem PySem.Spec PyProof.Rows L2
def kindsN : List String := ["int", "bool", "str", "NoneType", "tuple", "list", "dict"]
end Sd
namespace Sd
open PySem PySem.Spec PyProof.Rows PySem.SeqAt
open AutoSeq1 (wpAny_loadPart')
open MeetsSeq MeetsSeq2 MeetsSeq3 SeqRoads2
end Sd
namespace Sd
open PySem PySem.Spec PyProof.Rows L2
end Sd
namespace Sd
open PySem PySem.Spec PyProof.Rows L2
end Sd
namespace Sd
open PySem PySem.Spec PyProof.Rows L2
end Sd
namespace Sd
open PySem PySem.Spec PyProof.Rows L2
/-- nothing but lists is written -/
def NL (H H' : Hp) : Prop := ∀ b o, H b = some o → (∀ ys, o ≠ .lst ys) → H' b = some o
theorem NL.of {H H' : Hp} (s : Same H H') : NL H H' := fun b o e _ => s b o e
theorem NL.trans {H H1 H2 : Hp} (a : NL H H1) (b : NL H1 H2) : NL H H2 := fun c o e n => b c o (a c o e n) n
theorem NL.upd {H : Hp} {p : Addr} {ys : List V} {u : HO} (h : H p = some (.lst ys)) : NL H (upd H p u) := fun b o e n => by
  rw [upd_ne (fun z => by rw [z, h] at e; cases e; exact n _ rfl)]
  exact e
theorem NL.tup {K : PySem.W.Frag} {H H' : Hp} {a : Addr} {xs : List V} (s : NL H H') (h : SqT K H a xs) : SqT K H' a xs := by
  rcases h with (h | ⟨u, h⟩) | h
  · exact .inl (.inl (s _ _ h fun ys z => by cases z))
  · exact .inl (.inr ⟨u, s _ _ h fun ys z => by cases z⟩)
  · exact .inr h
def everyone (n : Nat) : List Int := (List.range n).map fun k : Nat => (k : Int)
structure K5 (g : Ga) (H : Hp) (rl ev ch tu hl : Addr) (xs : List V) (rs : List Rw) (cs ts : List Int) : Prop where
  rows : RowsAt g H rl rs
  hev : H ev = some (.lst ((everyone rs.length).map V.int))
  hch : H ch = some (.lst (cs.map V.int))
  htu : H tu = some (.lst (ts.map V.int))
  hhl : H hl = some (.lst xs)
  hxs : Paired (HandR g H) xs rs
  n1 : 1 ≤ rs.length
  n4 : rs.length ≤ 4
  ok : ∀ r ∈ rs, RwOk r
  w12 : (sysWords rs).length ≤ 12
  asc : AscI cs
  rng : ∀ k ∈ cs, 0 ≤ k ∧ k < (rs.length : Int)
  perm : ts.Perm cs
theorem K5.mono {g : Ga} {H H' : Hp} {rl ev ch tu hl : Addr} {xs : List V} {rs : List Rw} {cs ts : List Int} (s : Same H H') (h : K5 g H rl ev ch tu hl xs rs cs ts) : K5 g H' rl ev ch tu hl xs rs cs ts :=
  ⟨h.rows.mono s, s _ _ h.hev, s _ _ h.hch, s _ _ h.htu, s _ _ h.hhl, paired_mono (fun _ _ z => z.mono s) h.hxs, h.n1, h.n4, h.ok, h.w12, h.asc, h.rng, h.perm⟩
theorem asc_len5 {cs : List Int} {n : Nat} (a : AscI cs) (r : ∀ k ∈ cs, 0 ≤ k ∧ k < (n : Int)) : cs.length ≤ n := by
  have := nodup_leG cs (everyone n) (ascI_nodup a) fun x hx => by
    obtain ⟨h0, h1⟩ := r x hx
    obtain ⟨k, rfl⟩ := Int.eq_ofNat_of_zero_le h0
    exact List.mem_map.mpr ⟨k, List.mem_range.mpr (by omega), rfl⟩
  unfold everyone at this
  rw [List.length_map, List.length_range] at this
  exact this
section
variable {g : Ga} {H : Hp} {rl ev ch tu hl : Addr} {xs : List V} {rs : List Rw} {cs ts : List Int}
theorem K5.cl (h : K5 g H rl ev ch tu hl xs rs cs ts) : cs.length ≤ 4 := by
  have := asc_len5 h.asc h.rng
  have := h.n4
  omega
theorem K5.w8 (h : K5 g H rl ev ch tu hl xs rs cs ts) : ∀ r ∈ rs, (wordsOf r.2).length ≤ 8 := fun r m => (h.ok r m).w8
end
end Sd
namespace Sd
open PySem PySem.Spec PyProof.Rows L2
end Sd
namespace Sd
open PySem PySem.Spec PyProof.Rows L2
end Sd
namespace Sd
open PySem PySem.Spec PyProof.Rows L2
theorem GoodRow.rw {zs : List Str} {ms : Nat} {r : Rw} (h : GoodRow zs ms r) (hz : ∀ z ∈ zs, IsName z) (z8 : zs.length ≤ 8) (m8 : ms ≤ 8) : RwOk r :=
  ⟨h.st, h.okS hz, h.fb, h.l1, h.l2, Nat.le_trans h.words z8, Nat.le_trans h.reach m8⟩
end Sd
namespace Sd
open PySem PySem.Spec PyProof.Rows L2
end Sd
namespace Sd
open PySem PySem.Spec PyProof.Rows L2
/-- the fields of the program's classes -/
def fieldsOf (c : Str) : List Str :=
  if c = "Hand" then ["start", "steps", "words", "states"] else if c = "System" then ["hands", "diligent", "words", "start"] else if c = "Deeds" then ["kept"] else
  if c = "Desk" then ["hands", "chosen", "past"] else if c = "Ground" then ["asked", "known_ways", "known_able"] else []
/-- the module has this name -/
def present (K : PySem.W.Frag) (x : Str) : Bool := match PySem.W.nsIn K mainGlobals x with
  | some (some (.ref _)) => true
  | _ => false
/-- what is asked of an own class -/
structure ClsP (g : Ga) (c : Str) : Prop where
  pr : present g.K c = true
  isc : IsC g (g.c c)
  na : ∀ f ∈ fieldsOf c, NoAttr g.K (g.c c) f
  kt : ∀ T ∈ kindsN, PySem.W.kitOne g.K (.ref (g.c c)) (.type T) = some false
inductive PV where
  | non | bl (b : Bool) | int (i : Int) | str (s : Str) | tup (xs : List PV) | lst (xs : List PV) | dct (kvs : List (PV × PV)) | scr (ns : List Int) | ty (n : String) | cl (x : Str) | ins (c : Str) (fs : List (Str × PV)) | exn (a d : Addr) (f : Str) (x : PV) | tset (ks : List Str) | iset (ns : List Int) | map (kvs : List (PV × PV)) | omap (kvs : List (PV × List PV)) | grd (s : PV) (c1 c2 : List (PV × PV)) | nset (ks : List PV) | mapO (o : Obj) (es : List NE) (kvs : List (PV × PV))
/-- the key that a value is -/
def nkOf : PV → Option NestedKey
  | .non => some .none
  | .bl b => some (.num (if b = true then 1 else 0))
  | .int i => some (.num i)
  | .str s => some (.text s)
  | .tup xs => (nksOf xs).map .tup
  | _ => none
where nksOf : List PV → Option (List NestedKey)
  | [] => some []
  | x :: xs => (nkOf x).bind fun k => (nksOf xs).map fun ks => k :: ks
/-- the same number or flag -/
def sclR : V → PV → Bool
  | .int i, .int j => decide (i = j)
  | .bl b, .bl c => decide (b = c)
  | _, _ => false
mutual
inductive Rp (g : Ga) (H : Hp) : V → PV → Prop
  | non : Rp g H .non .non
  | bl (b : Bool) : Rp g H (.bl b) (.bl b)
  | int (i : Int) : Rp g H (.int i) (.int i)
  | str (s : Str) : Rp g H (.str s) (.str s)
  | tup {a : Addr} {vs : List V} {xs : List PV} : SqT g.K H a vs → RpL g H vs xs → Rp g H (.ref a) (.tup xs)
  | lst {a : Addr} {vs : List V} {xs : List PV} : H a = some (.lst vs) → RpL g H vs xs → Rp g H (.ref a) (.lst xs)
  | scr {a : Addr} {ns : List Int} : SqL g.K H a (ns.map V.int) → Rp g H (.ref a) (.scr ns)
  | ty (n : String) : Rp g H (.ty n) (.ty n)
  | cl {x : Str} : present g.K x = true → Rp g H (.ref (g.c x)) (.cl x)
  | ins {a dx : Addr} {c : Str} {vfs : List (Str × V)} {fs : List (Str × PV)} : ClsP g c → H a = some (.ins (g.c c) dx vfs) → RpF g H vfs fs → Rp g H (.ref a) (.ins c fs)
  | exn {a d : Addr} {f : Str} {v : V} {x : PV} : H d = some (.xd [(f, v)]) → Rp g H v x → Rp g H (.ref a) (.exn a d f x)
  | tset {a : Addr} {ks : List Str} : H a = some (TxO g.w a ks) → Rp g H (.ref a) (.tset ks)
  | iset {a : Addr} {ns : List Int} {n : Nat} : H a = some (SetO g.w a (fun j => decide (j ∈ ns)) n) → n ≤ ns.length → (∀ M : List Int, (∀ j ∈ ns, j ∈ M) → n ≤ M.length) → Rp g H (.ref a) (.iset ns)
  | dct0 {a : Addr} : H a = some (.dK []) → Rp g H (.ref a) (.dct [])
  | dct1 {a : Addr} {z : Str} {v : V} {x : PV} : H a = some (.dK [(.inr z, v)]) → sclR v x = true → Rp g H (.ref a) (.dct [(.str z, x)])
  | map {a : Addr} {o : Obj} {es : List NE} {kvs : List (PV × PV)} : (a == sysModules) = false → DObj g.w o es → H a = some (DO a o) → RpM g H es kvs → Rp g H (.ref a) (.map kvs)
  | mapO {a : Addr} {o : Obj} {es : List NE} {kvs : List (PV × PV)} : (a == sysModules) = false → DObj g.w o es → H a = some (DO a o) → RpM g H es kvs → Rp g H (.ref a) (.mapO o es kvs)
inductive RpM (g : Ga) (H : Hp) : List NE → List (PV × PV) → Prop
  | nil : RpM g H [] []
  | cons {nk : NestedKey} {ka : Addr} {u : Value} {v : V} {kx x : PV} {es : List NE} {kvs : List (PV × PV)} : Rp g H (.ref ka) kx → nkOf kx = some nk → nk.depth ≤ 8 → RelV v u → Rp g H v x → RpM g H es kvs → RpM g H ((nk, ka, u) :: es) ((kx, x) :: kvs)
inductive RpL (g : Ga) (H : Hp) : List V → List PV → Prop
  | nil : RpL g H [] []
  | cons {v : V} {vs : List V} {x : PV} {xs : List PV} : Rp g H v x → RpL g H vs xs → RpL g H (v :: vs) (x :: xs)
inductive RpF (g : Ga) (H : Hp) : List (Str × V) → List (Str × PV) → Prop
  | nil : RpF g H [] []
  | cons {f : Str} {v : V} {vs : List (Str × V)} {x : PV} {xs : List (Str × PV)} : Rp g H v x → RpF g H vs xs → RpF g H ((f, v) :: vs) ((f, x) :: xs)
end
section
variable {g : Ga} {H H' : Hp}
mutual
theorem Rp.mono (s : Same H H') : ∀ (x : PV) {v : V}, Rp g H v x → Rp g H' v x
  | .non, _, h => by cases h; exact .non
  | .bl b, _, h => by cases h; exact .bl b
  | .int i, _, h => by cases h; exact .int i
  | .str i, _, h => by cases h; exact .str i
  | .tup xs, _, h => by
    cases h with
    | tup a b => exact .tup (Same.tup s a) (RpL.mono s xs b)
  | .lst xs, _, h => by
    cases h with
    | lst a b => exact .lst (s _ _ a) (RpL.mono s xs b)
  | .scr ns, _, h => by
    cases h with
    | scr a => exact .scr (s.seq a)
  | .dct _, _, h => by
    cases h with
    | dct0 a => exact .dct0 (s _ _ a)
    | dct1 a b => exact .dct1 (s _ _ a) b
  | .ty n, _, h => by cases h; exact .ty n
  | .cl x, _, h => by
    cases h with
    | cl a => exact .cl a
  | .ins c fs, _, h => by
    cases h with
    | ins p a b => exact .ins p (s _ _ a) (RpF.mono s fs b)
  | .exn _ _ _ x, _, h => by
    cases h with
    | exn a b => exact .exn (s _ _ a) (Rp.mono s x b)
  | .tset ks, _, h => by
    cases h with
    | tset a => exact .tset (s _ _ a)
  | .iset ks, _, h => by
    cases h with
    | iset a b c => exact .iset (s _ _ a) b c
  | .map kvs, _, h => by
    cases h with
    | map a b c d => exact .map a b (s _ _ c) (RpM.mono s kvs d)
  | .mapO o es kvs, _, h => by
    cases h with
    | mapO a b c d => exact .mapO a b (s _ _ c) (RpM.mono s kvs d)
theorem RpM.mono (s : Same H H') : ∀ (kvs : List (PV × PV)) {es : List NE}, RpM g H es kvs → RpM g H' es kvs
  | [], _, h => by cases h; exact .nil
  | (kx, x) :: kvs, _, h => by
    cases h with
    | cons a b c d e f => exact .cons (Rp.mono s kx a) b c d (Rp.mono s x e) (RpM.mono s kvs f)
theorem RpL.mono (s : Same H H') : ∀ (xs : List PV) {vs : List V}, RpL g H vs xs → RpL g H' vs xs
  | [], _, h => by cases h; exact .nil
  | x :: xs, _, h => by
    cases h with
    | cons a b => exact .cons (Rp.mono s x a) (RpL.mono s xs b)
theorem RpF.mono (s : Same H H') : ∀ (xs : List (Str × PV)) {vs : List (Str × V)}, RpF g H vs xs → RpF g H' vs xs
  | [], _, h => by cases h; exact .nil
  | (_, x) :: xs, _, h => by
    cases h with
    | cons a b => exact .cons (Rp.mono s x a) (RpF.mono s xs b)
end
theorem RpF.get : ∀ {vs : List (Str × V)} {xs : List (Str × PV)} {f : Str} {x : PV}, RpF g H vs xs → xs.lookup f = some x → ∃ v, vs.lookup f = some v ∧ Rp g H v x
  | _, _, _, _, .nil, e => by cases e
  | _, _, f, x, .cons (f := f') r t, e => by
    rw [List.lookup_cons] at e ⊢
    cases q : f == f' with
    | true => rw [q] at e; cases e; exact ⟨_, rfl, r⟩
    | false => rw [q] at e; exact RpF.get t e
theorem RpF.none_of : ∀ {vs : List (Str × V)} {xs : List (Str × PV)} {f : Str}, RpF g H vs xs → xs.lookup f = none → vs.lookup f = none
  | _, _, _, .nil, e => rfl
  | _, _, f, .cons (f := f') r t, e => by
    rw [List.lookup_cons] at e ⊢
    cases q : f == f' with
    | true => rw [q] at e; cases e
    | false => rw [q] at e; exact RpF.none_of t e
theorem RpF.names : ∀ {vs : List (Str × V)} {xs : List (Str × PV)}, RpF g H vs xs → vs.map (·.1) = xs.map (·.1)
  | _, _, .nil => rfl
  | _, _, .cons r t => by rw [List.map_cons, List.map_cons, RpF.names t]
def putP (f : Str) (x : PV) : List (Str × PV) → List (Str × PV)
  | [] => [(f, x)]
  | (k, y) :: r => if k = f then (k, x) :: r else (k, y) :: putP f x r
theorem RpF.put {f : Str} {v : V} {x : PV} (h : Rp g H v x) : ∀ {vs : List (Str × V)} {xs : List (Str × PV)}, RpF g H vs xs → RpF g H (putF f v vs) (putP f x xs)
  | _, _, .nil => .cons h .nil
  | _, _, .cons (f := f') r t => by
    unfold putF putP
    by_cases e : f' = f
    · rw [if_pos e, if_pos e]; exact .cons h t
    · rw [if_neg e, if_neg e]; exact .cons r (RpF.put h t)
theorem RpL.length : ∀ {vs : List V} {xs : List PV}, RpL g H vs xs → vs.length = xs.length
  | _, _, .nil => rfl
  | _, _, .cons _ t => by rw [List.length_cons, List.length_cons, RpL.length t]
theorem RpL.get : ∀ {vs : List V} {xs : List PV} {i : Nat} {x : PV}, RpL g H vs xs → xs[i]? = some x → ∃ v, vs[i]? = some v ∧ Rp g H v x
  | _, _, _, _, .nil, e => by simp at e
  | _, _, 0, _, .cons r _, e => by simp at e; subst e; exact ⟨_, rfl, r⟩
  | _, _, i + 1, x, .cons _ t, e => by
    obtain ⟨u, h1, h2⟩ := RpL.get (i := i) (x := x) t (by simpa using e)
    exact ⟨u, by simpa using h1, h2⟩
theorem RpL.append : ∀ {vs us : List V} {xs ys : List PV}, RpL g H vs xs → RpL g H us ys → RpL g H (vs ++ us) (xs ++ ys)
  | _, _, _, _, .nil, s => s
  | _, _, _, _, .cons r t, s => .cons r (RpL.append t s)
theorem RpL.take : ∀ {vs : List V} {xs : List PV} (n : Nat), RpL g H vs xs → RpL g H (vs.take n) (xs.take n)
  | _, _, 0, _ => .nil
  | _, _, _ + 1, .nil => .nil
  | _, _, n + 1, .cons r t => .cons r (RpL.take n t)
theorem RpL.drop : ∀ {vs : List V} {xs : List PV} (n : Nat), RpL g H vs xs → RpL g H (vs.drop n) (xs.drop n)
  | _, _, 0, r => r
  | _, _, _ + 1, .nil => .nil
  | _, _, n + 1, .cons _ t => RpL.drop n t
theorem RpL.set {v : V} {x : PV} (r : Rp g H v x) : ∀ {vs : List V} {xs : List PV} (i : Nat), RpL g H vs xs → RpL g H (vs.set i v) (xs.set i x)
  | _, _, _, .nil => .nil
  | _, _, 0, .cons _ t => .cons r t
  | _, _, i + 1, .cons q t => .cons q (RpL.set r i t)
theorem RpL.reverse : ∀ {vs : List V} {xs : List PV}, RpL g H vs xs → RpL g H vs.reverse xs.reverse
  | _, _, .nil => .nil
  | _, _, .cons r t => by rw [List.reverse_cons, List.reverse_cons]; exact (RpL.reverse t).append (.cons r .nil)
theorem RpL.ints : ∀ (ns : List Int), RpL g H (ns.map V.int) (ns.map PV.int)
  | [] => .nil
  | n :: ns => .cons (.int n) (RpL.ints ns)
theorem RpL.strs : ∀ (ns : List Str), RpL g H (ns.map V.str) (ns.map PV.str)
  | [] => .nil
  | n :: ns => .cons (.str n) (RpL.strs ns)
theorem RpL.ints_inv : ∀ {ns : List Int} {vs : List V}, RpL g H vs (ns.map PV.int) → vs = ns.map V.int
  | [], _, h => by cases h; rfl
  | n :: ns, _, h => by
    cases h with
    | cons a b => cases a; rw [RpL.ints_inv b]; rfl
theorem RpL.strs_inv : ∀ {ns : List Str} {vs : List V}, RpL g H vs (ns.map PV.str) → vs = ns.map V.str
  | [], _, h => by cases h; rfl
  | n :: ns, _, h => by
    cases h with
    | cons a b => cases a; rw [RpL.strs_inv b]; rfl
end
def mns (H : Hp) (A : List Addr) : Hp := fun a => if a ∈ A then none else H a
theorem mns_in {H : Hp} {A : List Addr} {a : Addr} (h : a ∈ A) : mns H A a = none := by unfold mns; rw [if_pos h]
theorem mns_out {H : Hp} {A : List Addr} {a : Addr} (h : a ∉ A) : mns H A a = H a := by unfold mns; rw [if_neg h]
theorem mns_le {H : Hp} {A : List Addr} : Same (mns H A) H := fun b o h => by
  unfold mns at h; split at h
  · cases h
  · exact h
theorem mns_sub {H : Hp} {A B : List Addr} (h : ∀ a ∈ B, a ∈ A) : Same (mns H A) (mns H B) := fun b o e => by
  by_cases hb : b ∈ A
  · rw [mns_in hb] at e; cases e
  · rw [mns_out hb] at e
    rw [mns_out fun z => hb (h b z)]; exact e
theorem mns_grow {H H' : Hp} {A : List Addr} (s : Same H H') : Same (mns H A) (mns H' A) := fun b o e => by
  by_cases hb : b ∈ A
  · rw [mns_in hb] at e; cases e
  · rw [mns_out hb] at e ⊢; exact s b o e
theorem mns_upd {H : Hp} {A : List Addr} {a : Addr} {o : HO} (h : a ∈ A) : mns (upd H a o) A = mns H A := by
  funext b
  by_cases hb : b ∈ A
  · rw [mns_in hb, mns_in hb]
  · rw [mns_out hb, mns_out hb, upd_ne]
    exact fun z => hb (z ▸ h)
/-- what is known of a slot: nothing; a fixed value; a thing of one's own -/
inductive SV where
  | no | fz (x : PV) | ow (x : PV)
/-- entries with own lists for values, at B -/
def OwM (g : Ga) (G H : Hp) : List NE → List Addr → List (PV × List PV) → Prop
  | es, B, [] => es = [] ∧ B = []
  | es, B, (kx, xs) :: kvs => ∃ nk ka l vs es' B', es = (nk, ka, .ref l) :: es' ∧ B = l :: B' ∧ Rp g G (.ref ka) kx ∧ nkOf kx = some nk ∧ nk.depth ≤ 8 ∧ H l = some (.lst vs) ∧ RpL g G vs xs ∧ OwM g G H es' B' kvs
/-- members of a set -/
def RpK (g : Ga) (G : Hp) (L : List (Addr × NestedKey)) (ks : List PV) : Prop := ∃ L0, L.Perm L0 ∧ Paired (fun (p : Addr × NestedKey) (x : PV) => Rp g G (.ref p.1) x ∧ nkOf x = some p.2 ∧ p.2.depth ≤ 8) L0 ks
theorem RpK.mono {g : Ga} {G G' : Hp} (s : Same G G') {L : List (Addr × NestedKey)} {ks : List PV} (h : RpK g G L ks) : RpK g G' L ks := let ⟨L0, p, q⟩ := h; ⟨L0, p, Paired.mapP q fun _ _ z => ⟨Rp.mono s _ z.1, z.2⟩⟩
/-- v stands for the own thing x, whose objects are at P (G: all that is fixed) -/
def OwR (g : Ga) (G H : Hp) (v : V) (P : List Addr) : PV → Prop
  | .lst xs => ∃ a vs, v = .ref a ∧ P = [a] ∧ H a = some (.lst vs) ∧ RpL g G vs xs
  | .ins c fs => ClsP g c ∧ ∃ a dx vfs, v = .ref a ∧ P = [a] ∧ H a = some (.ins (g.c c) dx vfs) ∧ RpF g G vfs fs
  | .tset ks => ∃ a, v = .ref a ∧ P = [a] ∧ H a = some (TxO g.w a ks)
  | .map kvs => ∃ a o es, v = .ref a ∧ P = [a] ∧ (a == sysModules) = false ∧ DObj g.w o es ∧ H a = some (DO a o) ∧ RpM g G es kvs
  | .omap kvs => ∃ a o es B, v = .ref a ∧ P = a :: B ∧ (a == sysModules) = false ∧ DObj g.w o es ∧ H a = some (DO a o) ∧ OwM g G H es B kvs
  | .nset ks => ∃ a o L, v = .ref a ∧ P = [a] ∧ H a = some (DO a o) ∧ (∃ es ep t, SObj g.w o L es ep t) ∧ RpK g G L ks
  | .grd s c1 c2 => ClsP g "Ground" ∧ ∃ a dx d1 d2 v1 o1 o2 es1 es2, v = .ref a ∧ P = [a, d1, d2] ∧ H a = some (.ins (g.c "Ground") dx [("asked", v1), ("known_ways", .ref d1), ("known_able", .ref d2)]) ∧ Rp g G v1 s ∧
      (d1 == sysModules) = false ∧ DObj g.w o1 es1 ∧ H d1 = some (DO d1 o1) ∧ RpM g G es1 c1 ∧ (d2 == sysModules) = false ∧ DObj g.w o2 es2 ∧ H d2 = some (DO d2 o2) ∧ RpM g G es2 c2
  | _ => False
theorem OwM.mono {g : Ga} {G G' H H' : Hp} (s : Same G G') : ∀ {kvs : List (PV × List PV)} {es : List NE} {B : List Addr}, (∀ a ∈ B, H' a = H a) → OwM g G H es B kvs → OwM g G' H' es B kvs
  | [], _, _, _, h => h
  | (kx, xs) :: kvs, es, B, k, h => by
    obtain ⟨nk, ka, l, vs, es', B', e1, e2, r1, r2, r3, r4, r5, r6⟩ := h
    subst e2
    exact ⟨nk, ka, l, vs, es', B', e1, rfl, Rp.mono s _ r1, r2, r3, (k l (List.mem_cons_self)).trans r4, RpL.mono s _ r5, OwM.mono s (fun a ha => k a (List.mem_cons_of_mem _ ha)) r6⟩
theorem OwM.there {g : Ga} {G H : Hp} : ∀ {kvs : List (PV × List PV)} {es : List NE} {B : List Addr}, OwM g G H es B kvs → ∀ a ∈ B, H a ≠ none
  | [], _, _, h, a, ha => by rw [h.2] at ha; cases ha
  | (kx, xs) :: kvs, es, B, h, a, ha => by
    obtain ⟨nk, ka, l, vs, es', B', e1, e2, r1, r2, r3, r4, r5, r6⟩ := h
    subst e2
    rcases List.mem_cons.mp ha with rfl | ha
    · rw [r4]; simp
    · exact OwM.there r6 a ha
theorem OwR.mono {g : Ga} {G G' H H' : Hp} {v : V} {P : List Addr} {x : PV} (s : Same G G') (k : ∀ a ∈ P, H' a = H a) (h : OwR g G H v P x) : OwR g G' H' v P x := by
  cases x with
  | lst xs =>
    obtain ⟨a, vs, e1, e2, e3, e4⟩ := h
    exact ⟨a, vs, e1, e2, by rw [k a (by rw [e2]; simp)]; exact e3, e4.mono s⟩
  | ins c fs =>
    obtain ⟨cp, a, dx, vs, e1, e2, e3, e4⟩ := h
    exact ⟨cp, a, dx, vs, e1, e2, by rw [k a (by rw [e2]; simp)]; exact e3, e4.mono s⟩
  | tset ks =>
    obtain ⟨a, e1, e2, e3⟩ := h
    exact ⟨a, e1, e2, by rw [k a (by rw [e2]; simp)]; exact e3⟩
  | map kvs =>
    obtain ⟨a, o, es, e1, e2, e3, e4, e5, e6⟩ := h
    exact ⟨a, o, es, e1, e2, e3, e4, by rw [k a (by rw [e2]; simp)]; exact e5, RpM.mono s _ e6⟩
  | omap kvs =>
    obtain ⟨a, o, es, B, e1, e2, e3, e4, e5, e6⟩ := h
    exact ⟨a, o, es, B, e1, e2, e3, e4, by rw [k a (by rw [e2]; simp)]; exact e5, OwM.mono s (fun b hb => k b (by rw [e2]; exact List.mem_cons_of_mem _ hb)) e6⟩
  | nset ks =>
    obtain ⟨a, o, L, e1, e2, e3, e4, e5⟩ := h
    exact ⟨a, o, L, e1, e2, by rw [k a (by rw [e2]; simp)]; exact e3, e4, e5.mono s⟩
  | grd sy c1 c2 =>
    obtain ⟨cp, a, dx, d1, d2, v1, o1, o2, es1, es2, e1, e2, e3, e4, e5, e6, e7, e8, e9, f1, f2, f3⟩ := h
    exact ⟨cp, a, dx, d1, d2, v1, o1, o2, es1, es2, e1, e2, by rw [k a (by rw [e2]; simp)]; exact e3, Rp.mono s _ e4, e5, e6, by rw [k d1 (by rw [e2]; simp)]; exact e7, RpM.mono s _ e8, e9, f1, by rw [k d2 (by rw [e2]; simp)]; exact f2, RpM.mono s _ f3⟩
  | _ => exact h.elim
theorem OwR.there {g : Ga} {G H : Hp} {v : V} {P : List Addr} {x : PV} (h : OwR g G H v P x) : ∀ a ∈ P, H a ≠ none := by
  cases x with
  | lst xs =>
    obtain ⟨a, vs, e1, e2, e3, e4⟩ := h
    intro b hb
    rw [e2] at hb
    have : b = a := by simpa using hb
    rw [this, e3]; simp
  | ins c fs =>
    obtain ⟨cp, a, dx, vs, e1, e2, e3, e4⟩ := h
    intro b hb
    rw [e2] at hb
    have : b = a := by simpa using hb
    rw [this, e3]; simp
  | tset ks =>
    obtain ⟨a, e1, e2, e3⟩ := h
    intro b hb
    rw [e2] at hb
    have : b = a := by simpa using hb
    rw [this, e3]; simp
  | map kvs =>
    obtain ⟨a, o, es, e1, e2, e3, e4, e5, e6⟩ := h
    intro b hb
    rw [e2] at hb
    rw [List.mem_singleton.mp hb, e5]; simp
  | omap kvs =>
    obtain ⟨a, o, es, B, e1, e2, e3, e4, e5, e6⟩ := h
    intro b hb
    rw [e2] at hb
    rcases List.mem_cons.mp hb with rfl | hb
    · rw [e5]; simp
    · exact e6.there b hb
  | nset ks =>
    obtain ⟨a, o, L, e1, e2, e3, e4, e5⟩ := h
    intro b hb
    rw [e2] at hb
    rw [List.mem_singleton.mp hb, e3]; simp
  | grd sy c1 c2 =>
    obtain ⟨cp, a, dx, d1, d2, v1, o1, o2, es1, es2, e1, e2, e3, e4, e5, e6, e7, e8, e9, f1, f2, f3⟩ := h
    intro b hb
    rw [e2] at hb
    simp only [List.mem_cons, List.not_mem_nil, or_false] at hb
    rcases hb with rfl | rfl | rfl
    · rw [e3]; simp
    · rw [e7]; simp
    · rw [f2]; simp
  | _ => exact h.elim
abbrev En := Option V × SV
/-- the tables of code objects that grow -/
def Ga.tabs (g : Ga) : List (Addr × Str) := tabsK g.K
def Ga.tA (g : Ga) : List Addr := g.tabs.map (·.1)
def TbAll (g : Ga) (G H : Hp) : Prop := ∀ p ∈ g.tabs, TbS G H p
theorem TbAll.mono {g : Ga} {G G' H H' : Hp} (s : Same G G') (k : ∀ a ∈ g.tA, H' a = H a) (h : TbAll g G H) : TbAll g G' H' := fun p hp => by
  obtain ⟨ps, h1, h2, h3⟩ := h p hp
  refine ⟨ps, (k p.1 (List.mem_map_of_mem hp)).trans h1, h2, fun pos cv e => ?_⟩
  obtain ⟨c, e1, e2⟩ := h3 pos cv e
  exact ⟨c, e1, s _ _ e2⟩
inductive Sls (g : Ga) (G H : Hp) : List En → List Addr → Prop
  | nil : TbAll g G H → Sls g G H [] g.tA
  | no {ov : Option V} {L : List En} {A : List Addr} : Sls g G H L A → Sls g G H ((ov, .no) :: L) A
  | fz {v : V} {x : PV} {L : List En} {A : List Addr} : Rp g G v x → Sls g G H L A → Sls g G H ((some v, .fz x) :: L) A
  | ow {v : V} {x : PV} {P : List Addr} {L : List En} {A : List Addr} : OwR g G H v P x → Sls g G H L A → Sls g G H ((some v, .ow x) :: L) (P ++ A)
theorem Sls.mono {g : Ga} {G G' H H' : Hp} (s : Same G G') : ∀ {L : List En} {A : List Addr}, (∀ a ∈ A, H' a = H a) → Sls g G H L A → Sls g G' H' L A
  | _, _, k, .nil h => .nil (h.mono s k)
  | _, _, k, .no t => .no (Sls.mono s k t)
  | _, _, k, .fz r t => .fz (r.mono s) (Sls.mono s k t)
  | _, _, k, .ow r t => .ow (r.mono s fun a h => k a (List.mem_append_left _ h)) (Sls.mono s (fun a h => k a (List.mem_append_right _ h)) t)
theorem Sls.perm {g : Ga} {G H : Hp} {L L' : List En} (p : L.Perm L') : ∀ {A : List Addr}, Sls g G H L A → ∃ A', A.Perm A' ∧ Sls g G H L' A' := by
  induction p with
  | nil => exact fun h => ⟨_, List.Perm.refl _, h⟩
  | cons x p ih =>
    intro A h
    cases h with
    | no t => obtain ⟨A', q, t'⟩ := ih t; exact ⟨A', q, .no t'⟩
    | fz r t => obtain ⟨A', q, t'⟩ := ih t; exact ⟨A', q, .fz r t'⟩
    | ow r t => obtain ⟨A', q, t'⟩ := ih t; exact ⟨_, q.append_left _, .ow r t'⟩
  | swap x y l =>
    intro A h
    cases h with
    | no t =>
      cases t with
      | no t => exact ⟨_, List.Perm.refl _, .no (.no t)⟩
      | fz r t => exact ⟨_, List.Perm.refl _, .fz r (.no t)⟩
      | ow r t => exact ⟨_, List.Perm.refl _, .ow r (.no t)⟩
    | fz q t =>
      cases t with
      | no t => exact ⟨_, List.Perm.refl _, .no (.fz q t)⟩
      | fz r t => exact ⟨_, List.Perm.refl _, .fz r (.fz q t)⟩
      | ow r t => exact ⟨_, List.Perm.refl _, .ow r (.fz q t)⟩
    | ow q t =>
      cases t with
      | no t => exact ⟨_, List.Perm.refl _, .no (.ow q t)⟩
      | fz r t => exact ⟨_, List.Perm.refl _, .fz r (.ow q t)⟩
      | ow r t =>
        refine ⟨_, ?_, .ow r (.ow q t)⟩
        rw [← List.append_assoc, ← List.append_assoc]
        exact List.perm_append_comm.append_right _
  | trans _ _ i1 i2 =>
    intro A h
    obtain ⟨A1, p1, h1⟩ := i1 h
    obtain ⟨A2, p2, h2⟩ := i2 h1
    exact ⟨A2, p1.trans p2, h2⟩
/-- the entries L are held in H; A: the places of all own things -/
structure SRA (g : Ga) (A : List Addr) (H : Hp) (L : List En) : Prop where
  nd : A.Nodup
  nn : ∀ a ∈ A, H a ≠ none
  sl : Sls g (mns H A) H L A
def SR (g : Ga) (H : Hp) (L : List En) : Prop := ∃ A, SRA g A H L
section
variable {g : Ga} {A : List Addr} {H H' : Hp} {L L' : List En} {v : V} {x : PV}
theorem SRA.sr (h : SRA g A H L) : SR g H L := ⟨A, h⟩
/-- what holds of the tables at a start -/
structure Tb0 (g : Ga) (H : Hp) : Prop where
  nd : g.tA.Nodup
  at_ : ∀ a ∈ g.tA, H a = some (.tbl #[])
theorem Tb0.all (h : Tb0 g H) {G : Hp} : TbAll g G H := fun p hp => ⟨#[], h.at_ p.1 (List.mem_map_of_mem hp), trivial, fun pos cv e => by simp [codeAmong] at e⟩
theorem Tb0.nn (h : Tb0 g H) : ∀ a ∈ g.tA, H a ≠ none := fun a ha => by rw [h.at_ a ha]; simp
theorem SR.nil (h : Tb0 g H) : SR g H [] := ⟨g.tA, h.nd, h.nn, Sls.nil h.all⟩
theorem SR.perm (p : L.Perm L') (h : SR g H L) : SR g H L' := by
  obtain ⟨A, nd, nn, sl⟩ := h
  obtain ⟨A', q, sl'⟩ := sl.perm p
  refine ⟨A', q.nodup_iff.mp nd, fun a h => nn a (q.mem_iff.mpr h), ?_⟩
  have e : mns H A' = mns H A := by
    funext b; unfold mns
    by_cases hb : b ∈ A
    · rw [if_pos hb, if_pos (q.mem_iff.mp hb)]
    · rw [if_neg hb, if_neg fun z => hb (q.mem_iff.mpr z)]
  rw [e]; exact sl'
theorem SRA.grow (h : SRA g A H L) (s : Same H H') : SRA g A H' L := by
  have k : ∀ a ∈ A, H' a = H a := fun a ha => by
    cases e : H a with
    | none => exact absurd e (h.nn a ha)
    | some o => exact s _ _ e
  exact ⟨h.nd, fun a ha => by rw [k a ha]; exact h.nn a ha, h.sl.mono (mns_grow s) k⟩
theorem SR.grow (h : SR g H L) (s : Same H H') : SR g H' L := let ⟨_, z⟩ := h; (z.grow s).sr
theorem SRA.push (h : SRA g A H L) (r : Rp g (mns H A) v x) : SRA g A H ((some v, .fz x) :: L) := ⟨h.nd, h.nn, .fz r h.sl⟩
theorem SRA.pushNo {ov : Option V} (h : SRA g A H L) : SRA g A H ((ov, .no) :: L) := ⟨h.nd, h.nn, .no h.sl⟩
theorem SR.pushNo {ov : Option V} (h : SR g H L) : SR g H ((ov, .no) :: L) := let ⟨_, z⟩ := h; z.pushNo.sr
theorem SR.scal (h : SR g H L) (r : ∀ G, Rp g G v x) : SR g H ((some v, .fz x) :: L) := let ⟨_, z⟩ := h; (z.push (r _)).sr
theorem SR.tail {en : En} (h : SR g H (en :: L)) : SR g H L := by
  obtain ⟨A, nd, nn, sl⟩ := h
  cases sl with
  | no t => exact ⟨A, nd, nn, t⟩
  | fz r t => exact ⟨A, nd, nn, t⟩
  | @ow v x P _ A r t => exact ⟨A, (List.nodup_append.mp nd).2.1, fun a h => nn a (List.mem_append_right _ h), t.mono (mns_sub fun a h => List.mem_append_right _ h) fun _ _ => rfl⟩
theorem SR.drop : ∀ {L1 : List En}, SR g H (L1 ++ L) → SR g H L
  | [], h => h
  | _ :: L1, h => SR.drop (L1 := L1) h.tail
/-- a new thing that never changes -/
theorem SRA.alloc {p : Addr} {o : HO} (h : SRA g A H L) (n : H p = none) : SRA g A (upd H p o) L ∧ mns (upd H p o) A p = some o := by
  have hp : p ∉ A := fun z => h.nn p z n
  exact ⟨h.grow (Same.new n), by rw [mns_out hp, upd_same]⟩
theorem SRA.newT {p : Addr} {vs : List V} {xs : List PV} (h : SRA g A H L) (n : H p = none) (r : RpL g (mns H A) vs xs) : SRA g A (upd H p (.tup vs)) ((some (.ref p), .fz (.tup xs)) :: L) := by
  obtain ⟨h', e⟩ := h.alloc (o := .tup vs) n
  exact h'.push (.tup (SqT.of e) (r.mono (mns_grow (Same.new n))))
theorem SRA.newL {p : Addr} {vs : List V} {xs : List PV} (h : SRA g A H L) (n : H p = none) (r : RpL g (mns H A) vs xs) : SRA g (p :: A) (upd H p (.lst vs)) ((some (.ref p), .ow (.lst xs)) :: L) := by
  have hp : p ∉ A := fun z => h.nn p z n
  have h' := h.grow (Same.new (o := .lst vs) n)
  have e : Same (mns H A) (mns (upd H p (.lst vs)) (p :: A)) := fun b o z => by
    by_cases hb : b ∈ A
    · rw [mns_in hb] at z; cases z
    · rw [mns_out hb] at z
      have hbp := ne_of_none z n
      rw [mns_out (by simp [hb, hbp]), upd_ne hbp]; exact z
  have k : ∀ a ∈ A, (upd H p (.lst vs)) a = H a := fun a ha => upd_ne fun z => hp (z ▸ ha)
  refine ⟨List.nodup_cons.mpr ⟨hp, h.nd⟩, fun a ha => ?_, Sls.ow (P := [p]) ⟨p, vs, rfl, rfl, upd_same, r.mono e⟩ (h.sl.mono e k)⟩
  rcases List.mem_cons.mp ha with rfl | ha
  · rw [upd_same]; simp
  · exact h'.nn a ha
/-- an own list is written -/
theorem SRA.write {a : Addr} {xs : List PV} {vs' : List V} {xs' : List PV} (h : SRA g A H ((some (.ref a), .ow (.lst xs)) :: L)) (r : RpL g (mns H A) vs' xs') : SRA g A (upd H a (.lst vs')) ((some (.ref a), .ow (.lst xs')) :: L) := by
  obtain ⟨nd, nn, sl⟩ := h
  cases sl with
  | @ow _ _ P _ A ro t =>
    obtain ⟨b, vs, e1, e2, e3, e4⟩ := ro
    cases e1
    subst e2
    have ha : a ∈ [a] ++ A := by simp
    have hn : a ∉ A := (List.nodup_cons.mp nd).1
    refine ⟨nd, fun c hc => ?_, ?_⟩
    · by_cases hca : c = a
      · rw [hca, upd_same]; simp
      · rw [upd_ne hca]; exact nn c hc
    · rw [mns_upd ha]
      exact Sls.ow (P := [a]) ⟨a, vs', rfl, rfl, upd_same, r⟩ (t.mono (Same.refl _) fun c hc => upd_ne fun z => hn (z ▸ hc))
theorem SRA.ownL {xs : List PV} (h : SRA g A H ((some v, .ow (.lst xs)) :: L)) : ∃ a vs, v = .ref a ∧ a ∈ A ∧ H a = some (.lst vs) ∧ RpL g (mns H A) vs xs := by
  obtain ⟨nd, nn, sl⟩ := h
  cases sl with
  | @ow _ _ P _ A ro t =>
    obtain ⟨b, vs, e1, e2, e3, e4⟩ := ro
    subst e2
    exact ⟨b, vs, e1, by simp, e3, e4⟩
theorem SRA.top (h : SRA g A H ((some v, .fz x) :: L)) : Rp g (mns H A) v x := by
  obtain ⟨nd, nn, sl⟩ := h
  cases sl with
  | fz r t => exact r
theorem SRA.tail {en : En} (h : SRA g A H (en :: L)) (hn : ∀ x, en.2 ≠ .ow x) : SRA g A H L := by
  obtain ⟨nd, nn, sl⟩ := h
  cases sl with
  | no t => exact ⟨nd, nn, t⟩
  | fz r t => exact ⟨nd, nn, t⟩
  | ow r t => exact (hn _ rfl).elim
theorem fst_inj {α β : Type} : ∀ {l : List (α × β)} {x y : α × β}, (l.map (·.1)).Nodup → x ∈ l → y ∈ l → x.1 = y.1 → x = y
  | a :: l, x, y, nd, hx, hy, e => by
    rw [List.map_cons, List.nodup_cons] at nd
    rcases List.mem_cons.mp hx with hx1 | hx2
    · rcases List.mem_cons.mp hy with hy1 | hy2
      · rw [hx1, hy1]
      · exact absurd (by rw [← hx1, e]; exact List.mem_map_of_mem (f := (·.1)) hy2) nd.1
    · rcases List.mem_cons.mp hy with hy1 | hy2
      · exact absurd (by rw [← hy1, ← e]; exact List.mem_map_of_mem (f := (·.1)) hx2) nd.1
      · exact fst_inj nd.2 hx2 hy2 e
theorem Sls.sub {G : Hp} : ∀ {L : List En} {A : List Addr}, Sls g G H L A → ∀ a ∈ g.tA, a ∈ A
  | _, _, .nil _, a, h => h
  | _, _, .no t, a, h => t.sub a h
  | _, _, .fz _ t, a, h => t.sub a h
  | _, _, .ow _ t, a, h => List.mem_append_right _ (t.sub a h)
theorem Sls.tbs {G : Hp} : ∀ {L : List En} {A : List Addr}, Sls g G H L A → TbAll g G H
  | _, _, .nil h => h
  | _, _, .no t => t.tbs
  | _, _, .fz _ t => t.tbs
  | _, _, .ow _ t => t.tbs
theorem Sls.retab {G G' : Hp} (s : Same G G') (tb : TbAll g G' H') : ∀ {L : List En} {A : List Addr}, A.Nodup → (∀ a ∈ A, a ∉ g.tA → H' a = H a) → Sls g G H L A → Sls g G' H' L A
  | _, _, _, _, .nil _ => .nil tb
  | _, _, nd, k, .no t => .no (Sls.retab s tb nd k t)
  | _, _, nd, k, .fz r t => .fz (r.mono s) (Sls.retab s tb nd k t)
  | _, _, nd, k, .ow r t => .ow (r.mono s fun a h => k a (List.mem_append_left _ h) fun z => (List.nodup_append.mp nd).2.2 a h a (t.sub a z) rfl) (Sls.retab s tb (List.nodup_append.mp nd).2.1 (fun a h => k a (List.mem_append_right _ h)) t)
/-- a lambda is made -/
theorem SRA.made {P : Addr} {q : Str} {H2 : Hp} (h : SRA g A H L) (hp : (P, q) ∈ g.tabs) (nt : (g.tabs.map (·.1)).Nodup) (m : Made H P q H2) : SRA g A H2 L := by
  rcases m with rfl | ⟨ps, c, pos, h1, h2, rfl⟩
  · exact h
  have PA : P ∈ A := h.sl.sub P (List.mem_map_of_mem (f := (·.1)) hp)
  have cA : c ∉ A := fun z => h.nn c z h2
  have cP : P ≠ c := fun z => cA (z ▸ PA)
  have at_ : ∀ a ∈ A, a ≠ P → upd (upd H P (.tbl (ps ++ #[rawInt pos.line, rawInt pos.col, .ref c]))) c (LamX.CodeO c q) a = H a := fun a ha n => by rw [upd_ne (a := c) (b := a) (fun (z : a = c) => cA (z ▸ ha)), upd_ne n]
  have s : Same (mns H A) (mns (upd (upd H P (.tbl (ps ++ #[rawInt pos.line, rawInt pos.col, .ref c]))) c (LamX.CodeO c q)) A) := fun b o e => by
    by_cases hb : b ∈ A
    · rw [mns_in hb] at e; cases e
    · rw [mns_out hb] at e ⊢
      have bP : b ≠ P := fun z => hb (by rw [z]; exact PA)
      rw [upd_ne (ne_of_none e h2), upd_ne bP]; exact e
  have tb : TbAll g (mns (upd (upd H P (.tbl (ps ++ #[rawInt pos.line, rawInt pos.col, .ref c]))) c (LamX.CodeO c q)) A) (upd (upd H P (.tbl (ps ++ #[rawInt pos.line, rawInt pos.col, .ref c]))) c (LamX.CodeO c q)) := fun p2 hp2 => by
    obtain ⟨ps2, k1, k2, k3⟩ := h.sl.tbs p2 hp2
    by_cases e : p2.1 = P
    · have e2 : p2 = (P, q) := fst_inj nt hp2 hp e
      subst e2
      rw [h1] at k1; cases k1
      have el : (ps ++ #[rawInt pos.line, rawInt pos.col, .ref c]).toList = ps.toList ++ [rawInt pos.line, rawInt pos.col, .ref c] := by simp
      refine ⟨_, by rw [upd_ne cP, upd_same], by rw [el]; exact PySem.TriplesOk_snoc _ _ _ _ k2, fun pos' cv hcv => ?_⟩
      rw [el] at hcv
      rcases LamX.among_app _ k2 hcv with z | z
      · obtain ⟨c0, z1, z2⟩ := k3 pos' cv z
        exact ⟨c0, z1, s _ _ z2⟩
      · exact ⟨c, z, by rw [mns_out cA, upd_same]⟩
    · refine ⟨ps2, by rw [at_ p2.1 (h.sl.sub _ (List.mem_map_of_mem hp2)) e]; exact k1, k2, fun pos' cv hcv => ?_⟩
      obtain ⟨c0, z1, z2⟩ := k3 pos' cv hcv
      exact ⟨c0, z1, s _ _ z2⟩
  refine ⟨h.nd, fun a ha => ?_, h.sl.retab s tb h.nd fun a ha n => at_ a ha fun z => n (z ▸ List.mem_map_of_mem (f := (·.1)) hp)⟩
  by_cases e : a = P
  · rw [e, upd_ne cP, upd_same]; simp
  · rw [at_ a ha e]; exact h.nn a ha
/-- an own list is changed no more -/
theorem SR.freeze {xs : List PV} (h : SR g H ((some v, .ow (.lst xs)) :: L)) : SR g H ((some v, .fz (.lst xs)) :: L) := by
  obtain ⟨A, nd, nn, sl⟩ := h
  cases sl with
  | @ow _ _ P _ A ro t =>
    obtain ⟨a, vs, e1, e2, e3, e4⟩ := ro
    subst e1 e2
    have hn : a ∉ A := (List.nodup_cons.mp nd).1
    have s : Same (mns H ([a] ++ A)) (mns H A) := mns_sub fun b h => List.mem_append_right _ h
    exact ⟨A, (List.nodup_cons.mp nd).2, fun b hb => nn b (by simp [hb]), .fz (.lst (by rw [mns_out hn]; exact e3) (e4.mono s)) (t.mono s fun _ _ => rfl)⟩
theorem SR.freezeI {c : Str} {fs : List (Str × PV)} (h : SR g H ((some v, .ow (.ins c fs)) :: L)) : SR g H ((some v, .fz (.ins c fs)) :: L) := by
  obtain ⟨A, nd, nn, sl⟩ := h
  cases sl with
  | @ow _ _ P _ A ro t =>
    obtain ⟨p, a, dx, vs, e1, e2, e3, e4⟩ := ro
    subst e1 e2
    have hn : a ∉ A := (List.nodup_cons.mp nd).1
    have s : Same (mns H ([a] ++ A)) (mns H A) := mns_sub fun b h => List.mem_append_right _ h
    exact ⟨A, (List.nodup_cons.mp nd).2, fun b hb => nn b (by simp [hb]), .fz (.ins p (by rw [mns_out hn]; exact e3) (e4.mono s)) (t.mono s fun _ _ => rfl)⟩
/-- an own dict is changed no more -/
theorem SR.freezeM {kvs : List (PV × PV)} (h : SR g H ((some v, .ow (.map kvs)) :: L)) : SR g H ((some v, .fz (.map kvs)) :: L) := by
  obtain ⟨A, nd, nn, sl⟩ := h
  cases sl with
  | @ow _ _ P _ A ro t =>
    obtain ⟨a, o, es, e1, e2, e3, e4, e5, e6⟩ := ro
    subst e1 e2
    have hn : a ∉ A := (List.nodup_cons.mp nd).1
    have s : Same (mns H ([a] ++ A)) (mns H A) := mns_sub fun b h => List.mem_append_right _ h
    exact ⟨A, (List.nodup_cons.mp nd).2, fun b hb => nn b (by simp [hb]), .fz (.map e3 e4 (by rw [mns_out hn]; exact e5) (RpM.mono s _ e6)) (t.mono s fun _ _ => rfl)⟩
mutual
theorem nk_of : ∀ (x : PV) {v : V} {k : NestedKey}, Rp g H v x → nkOf x = some k → NK g.K H k v
  | .non, _, _, h, e => by cases h; cases e; exact .none
  | .bl b, _, _, h, e => by cases h; cases e; exact .bl b
  | .int i, _, _, h, e => by cases h; cases e; exact .int i
  | .str i, _, _, h, e => by cases h; cases e; exact .str i
  | .tup xs, _, _, h, e => by
    obtain ⟨ks, e1, rfl⟩ := Option.map_eq_some_iff.mp (show (nkOf.nksOf xs).map NestedKey.tup = some _ from e)
    cases h with
    | tup a b => exact .tup a (nks_of xs b e1)
  | .lst _, _, _, _, e => nomatch (show (none : Option NestedKey) = some _ from e)
  | .dct _, _, _, _, e => nomatch (show (none : Option NestedKey) = some _ from e)
  | .scr _, _, _, _, e => nomatch (show (none : Option NestedKey) = some _ from e)
  | .ty _, _, _, _, e => nomatch (show (none : Option NestedKey) = some _ from e)
  | .cl _, _, _, _, e => nomatch (show (none : Option NestedKey) = some _ from e)
  | .ins _ _, _, _, _, e => nomatch (show (none : Option NestedKey) = some _ from e)
  | .exn _ _ _ _, _, _, _, e => nomatch (show (none : Option NestedKey) = some _ from e)
  | .tset _, _, _, _, e => nomatch (show (none : Option NestedKey) = some _ from e)
  | .iset _, _, _, _, e => nomatch (show (none : Option NestedKey) = some _ from e)
  | .map _, _, _, _, e => nomatch (show (none : Option NestedKey) = some _ from e)
  | .omap _, _, _, _, e => nomatch (show (none : Option NestedKey) = some _ from e)
  | .grd _ _ _, _, _, _, e => nomatch (show (none : Option NestedKey) = some _ from e)
  | .nset _, _, _, _, e => nomatch (show (none : Option NestedKey) = some _ from e)
  | .mapO _ _ _, _, _, _, e => nomatch (show (none : Option NestedKey) = some _ from e)
theorem nks_of : ∀ (xs : List PV) {vs : List V} {ks : List NestedKey}, RpL g H vs xs → nkOf.nksOf xs = some ks → NKs g.K H ks vs
  | [], _, _, h, e => by cases h; cases e; exact .nil
  | x :: xs, _, _, h, e => by
    obtain ⟨k, e1, e2⟩ := Option.bind_eq_some_iff.mp (show (nkOf x).bind (fun k => (nkOf.nksOf xs).map fun ks => k :: ks) = some _ from e)
    obtain ⟨ks', e3, rfl⟩ := Option.map_eq_some_iff.mp e2
    cases h with
    | cons a b => exact .cons (nk_of x a e1) (nks_of xs b e3)
end
theorem RpM.keys : ∀ {es : List NE} {kvs : List (PV × PV)}, RpM g H es kvs → ∀ x ∈ es, KeyIn g.K H x.1 x.2.1
  | _, _, .nil, x, hx => by cases hx
  | _, _, .cons a b c d e f, x, hx => by
    rcases List.mem_cons.mp hx with rfl | hx
    · exact ⟨nk_of _ a b, c⟩
    · exact RpM.keys f x hx
def lookM (kvs : List (PV × PV)) (k : NestedKey) : Option PV := (kvs.find? fun p => decide (nkOf p.1 = some k)).map (·.2)
def putM (kvs : List (PV × PV)) (kx : PV) (k : NestedKey) (x : PV) : List (PV × PV) := if (lookM kvs k).isSome then kvs.map (fun p => if nkOf p.1 = some k then (p.1, x) else p) else kvs ++ [(kx, x)]
/-- a key: a tuple -/
def keyP : PV → Option NestedKey
  | .tup xs => (nkOf (.tup xs)).filter fun k => decide (k.depth ≤ 8)
  | _ => none
theorem keyP_inv {x : PV} {k : NestedKey} (h : keyP x = some k) : (∃ xs, x = .tup xs) ∧ nkOf x = some k ∧ k.depth ≤ 8 := by
  unfold keyP at h
  split at h
  · obtain ⟨h1, h2⟩ := Option.filter_eq_some_iff.mp h
    exact ⟨⟨_, rfl⟩, h1, of_decide_eq_true h2⟩
  · cases h
theorem RpM.look {es : List NE} {kvs : List (PV × PV)} (h : RpM g H es kvs) (k : NestedKey) : (∃ x p v, lookM kvs k = some x ∧ atKey es k = some p ∧ RelV v p.2 ∧ Rp g H v x) ∨ (lookM kvs k = none ∧ atKey es k = none) := by
  match h with
  | .nil => exact .inr ⟨rfl, rfl⟩
  | .cons (nk := nk) (ka := ka) (u := u) (v := v) (kx := kx) (x := x) a b c d e f =>
    by_cases q : nk = k
    · subst q
      refine .inl ⟨x, (ka, u), v, ?_, ?_, d, e⟩
      · unfold lookM; rw [List.find?_cons_of_pos (by simp [b])]; rfl
      · unfold atKey; rw [List.find?_cons_of_pos (by simp)]; rfl
    · have n1 : ¬ (nkOf kx = some k) := fun z => q (Option.some.inj (b.symm.trans z))
      have ih := RpM.look f k
      unfold lookM atKey at ih ⊢
      rw [List.find?_cons_of_neg (by simp [n1]), List.find?_cons_of_neg (by simp [q])]
      exact ih
theorem RpM.some_iff {es : List NE} {kvs : List (PV × PV)} (h : RpM g H es kvs) (k : NestedKey) : (atKey es k).isSome = (lookM kvs k).isSome := by
  rcases h.look k with ⟨x, p, v, e1, e2, _⟩ | ⟨e1, e2⟩
  · rw [e1, e2]; rfl
  · rw [e1, e2]; rfl
theorem RpM.repl {k : NestedKey} {u : Value} {v : V} {x : PV} (rv : RelV v u) (rx : Rp g H v x) : ∀ {es : List NE} {kvs : List (PV × PV)}, RpM g H es kvs → RpM g H (es.map (putAt k u)) (kvs.map fun p => if nkOf p.1 = some k then (p.1, x) else p)
  | _, _, .nil => .nil
  | _, _, .cons (nk := nk) a b c d e f => by
    rw [List.map_cons, List.map_cons]
    unfold putAt
    by_cases q : nk = k
    · rw [if_pos q, if_pos (by rw [b, q])]; exact .cons a b c rv rx (RpM.repl rv rx f)
    · rw [if_neg q, if_neg (by rw [b]; exact fun z => q (Option.some.inj z))]; exact .cons a b c d e (RpM.repl rv rx f)
theorem RpM.snoc {ka : Addr} {k : NestedKey} {u : Value} {v : V} {kx x : PV} (rk : Rp g H (.ref ka) kx) (hk : nkOf kx = some k) (hd : k.depth ≤ 8) (rv : RelV v u) (rx : Rp g H v x) : ∀ {es : List NE} {kvs : List (PV × PV)}, RpM g H es kvs → RpM g H (es ++ [(k, ka, u)]) (kvs ++ [(kx, x)])
  | _, _, .nil => .cons rk hk hd rv rx .nil
  | _, _, .cons a b c d e f => .cons a b c d e (RpM.snoc rk hk hd rv rx f)
theorem RpM.put {es : List NE} {kvs : List (PV × PV)} (h : RpM g H es kvs) {ka : Addr} {k : NestedKey} {u : Value} {v : V} {kx x : PV} (rk : Rp g H (.ref ka) kx) (hk : nkOf kx = some k) (hd : k.depth ≤ 8) (rv : RelV v u) (rx : Rp g H v x) : RpM g H (storedH es k ka u) (putM kvs kx k x) := by
  unfold storedH putM
  rw [h.some_iff k]
  by_cases q : (lookM kvs k).isSome = true
  · rw [if_pos q, if_pos q]; exact h.repl rv rx
  · rw [if_neg q, if_neg q]; exact h.snoc rk hk hd rv rx
theorem RpM.len : ∀ {es : List NE} {kvs : List (PV × PV)}, RpM g H es kvs → es.length = kvs.length
  | _, _, .nil => rfl
  | _, _, .cons a b c d e f => by rw [List.length_cons, List.length_cons, RpM.len f]
theorem RpM.get : ∀ {es : List NE} {kvs : List (PV × PV)} {i : Nat} {e : NE}, RpM g H es kvs → es[i]? = some e → ∃ p, kvs[i]? = some p ∧ Rp g H (.ref e.2.1) p.1
  | _, _, _, _, .nil, q => by simp at q
  | _, _, 0, _, .cons a b c d e f, q => by simp at q; subst q; exact ⟨_, rfl, a⟩
  | _, _, i + 1, x, .cons a b c d e f, q => by
    obtain ⟨p, h1, h2⟩ := RpM.get (i := i) (e := x) f (by simpa using q)
    exact ⟨p, by simpa using h1, h2⟩
theorem RpM.keysL : ∀ {es : List NE} {kvs : List (PV × PV)}, RpM g H es kvs → RpL g H (es.map fun e => .ref e.2.1) (kvs.map (·.1))
  | _, _, .nil => .nil
  | _, _, .cons a b c d e f => .cons a (RpM.keysL f)
def inS (ks : List PV) (k : NestedKey) : Bool := ks.any fun y => decide (nkOf y = some k)
theorem paired_in {L0 : List (Addr × NestedKey)} {ks : List PV} (k : NestedKey) (h : Paired (fun (p : Addr × NestedKey) (x : PV) => Rp g H (.ref p.1) x ∧ nkOf x = some p.2 ∧ p.2.depth ≤ 8) L0 ks) : (k ∈ L0.map (·.2)) ↔ inS ks k = true := by
  induction h with
  | nil => simp [inS]
  | @cons p x ps xs h t ih =>
    rw [List.map_cons, List.mem_cons, ih]
    unfold inS
    rw [List.any_cons, Bool.or_eq_true, decide_eq_true_eq, h.2.1]
    exact or_congr ⟨fun e => by rw [e], fun e => (Option.some.inj e).symm⟩ Iff.rfl
theorem RpK.in_iff {L : List (Addr × NestedKey)} {ks : List PV} (h : RpK g H L ks) (k : NestedKey) : decide (k ∈ L.map (·.2)) = inS ks k := by
  obtain ⟨L0, p, q⟩ := h
  have e : k ∈ L.map (·.2) ↔ inS ks k = true := ((p.map (·.2)).mem_iff).trans (paired_in k q)
  cases z : inS ks k with
  | true => exact decide_eq_true (e.mpr z)
  | false => exact decide_eq_false fun m => by rw [e.mp m] at z; cases z
theorem RpK.keys {L : List (Addr × NestedKey)} {ks : List PV} (h : RpK g H L ks) : ∀ p ∈ L, KeyIn g.K H p.2 p.1 := by
  obtain ⟨L0, p, q⟩ := h
  intro r hr
  have hr0 := p.mem_iff.mp hr
  clear hr p
  induction q with
  | nil => cases hr0
  | cons h t ih =>
    rcases List.mem_cons.mp hr0 with rfl | hr0
    · exact ⟨nk_of _ h.1 h.2.1, h.2.2⟩
    · exact ih hr0
theorem RpK.len {L : List (Addr × NestedKey)} {ks : List PV} (h : RpK g H L ks) : L.length = ks.length := by
  obtain ⟨L0, p, q⟩ := h
  rw [p.length_eq, q.length]
theorem RpM.dat {a : Addr} {o : Obj} {es : List NE} {kvs : List (PV × PV)} {G : Hp} (sm : (a == sysModules) = false) (d : DObj g.w o es) (e : H a = some (DO a o)) (m : RpM g G es kvs) (s : Same G H) : DAt g.K g.w H a o es := ⟨e, sm, d, fun x hx => (m.keys x hx).mono s⟩
end
end Sd
namespace Sd
open PySem PySem.Spec PyProof.Rows L2
theorem pm_app {α : Type} (T Z L : List α) : (T ++ (Z ++ L)).Perm (Z ++ (T ++ L)) := by
  rw [← List.append_assoc, ← List.append_assoc]
  exact List.perm_append_comm.append_right _
theorem pm_cons {α : Type} (a : α) (Z L : List α) : (a :: (Z ++ L)).Perm (Z ++ a :: L) := List.perm_middle.symm
theorem pm_cons2 {α : Type} (a : α) (T Z L : List α) : (T ++ (Z ++ a :: L)).Perm (a :: (T ++ (Z ++ L))) := by
  rw [← List.append_assoc, ← List.append_assoc]
  exact List.perm_middle
abbrev zp (σ : L2.St) (e : List SV) : List En := List.zip σ e
theorem zip_slot : ∀ {σ : L2.St} {e : List SV} {i : Nat} {ov : Option V} {s : SV}, σ[i]? = some ov → e[i]? = some s →
    ∃ R, (zp σ e).Perm ((ov, s) :: R) ∧ (∀ s', (zp σ (e.set i s')).Perm ((ov, s') :: R)) ∧ ∀ ov' s', (zp (σ.set i ov') (e.set i s')).Perm ((ov', s') :: R)
  | [], _, _, _, _, h, _ => by simp at h
  | _ :: _, [], _, _, _, _, h => by simp at h
  | o :: σ, s0 :: e, 0, ov, s, h1, h2 => by
    simp at h1 h2; subst h1 h2
    exact ⟨zp σ e, List.Perm.refl _, fun _ => List.Perm.refl _, fun _ _ => List.Perm.refl _⟩
  | o :: σ, s0 :: e, i + 1, ov, s, h1, h2 => by
    obtain ⟨R, a, b, c⟩ := zip_slot (σ := σ) (e := e) (i := i) (by simpa using h1) (by simpa using h2)
    exact ⟨(o, s0) :: R, (a.cons _).trans (List.Perm.swap _ _ _), fun s' => ((b s').cons _).trans (List.Perm.swap _ _ _), fun v' s' => ((c v' s').cons _).trans (List.Perm.swap _ _ _)⟩
theorem slot_at {σ : L2.St} {e : List SV} (hl : σ.length = e.length) {i : Nat} {s : SV} (h : e[i]? = some s) : ∃ ov, σ[i]? = some ov := by
  have il := (List.getElem?_eq_some_iff.mp h).1
  exact ⟨σ[i]'(by omega), List.getElem?_eq_getElem _⟩
theorem zip_mem {σ : L2.St} {e : List SV} {i : Nat} {ov : Option V} {s : SV} (h1 : σ[i]? = some ov) (h2 : e[i]? = some s) : (ov, s) ∈ zp σ e := by
  obtain ⟨R, p, _⟩ := zip_slot h1 h2
  exact p.mem_iff.mpr List.mem_cons_self
def Cn (g : Ga) (A : List Addr) (H : Hp) (v : V) : PV → Prop
  | .lst xs => ∃ a vs, v = .ref a ∧ H a = some (.lst vs) ∧ RpL g (mns H A) vs xs
  | .ins c fs => ClsP g c ∧ ∃ a dx vfs, v = .ref a ∧ H a = some (.ins (g.c c) dx vfs) ∧ RpF g (mns H A) vfs fs
  | .tset ks => ∃ a, v = .ref a ∧ H a = some (TxO g.w a ks)
  | .map kvs => ∃ a o es, v = .ref a ∧ (a == sysModules) = false ∧ DObj g.w o es ∧ H a = some (DO a o) ∧ RpM g (mns H A) es kvs
  | .omap kvs => ∃ a o es B, v = .ref a ∧ (a == sysModules) = false ∧ DObj g.w o es ∧ H a = some (DO a o) ∧ OwM g (mns H A) H es B kvs
  | .nset ks => ∃ a o L, v = .ref a ∧ H a = some (DO a o) ∧ (∃ es ep t, SObj g.w o L es ep t) ∧ RpK g (mns H A) L ks
  | .grd _ _ _ => ClsP g "Ground" ∧ ∃ a dx v1 d1 d2, v = .ref a ∧ H a = some (.ins (g.c "Ground") dx [("asked", v1), ("known_ways", .ref d1), ("known_able", .ref d2)])
  | x => Rp g (mns H A) v x
section
variable {g : Ga} {A : List Addr} {H H' : Hp} {L L' : List En} {v : V} {x : PV}
theorem Sls.mem_fz {G : Hp} : ∀ {L : List En} {A : List Addr}, Sls g G H L A → (some v, .fz x) ∈ L → Rp g G v x
  | _, _, .nil _, m => by cases m
  | _, _, .no t, m => by
    rcases List.mem_cons.mp m with e | m
    · cases e
    · exact t.mem_fz m
  | _, _, .fz r t, m => by
    rcases List.mem_cons.mp m with e | m
    · cases e; exact r
    · exact t.mem_fz m
  | _, _, .ow r t, m => by
    rcases List.mem_cons.mp m with e | m
    · cases e
    · exact t.mem_fz m
theorem Sls.mem_ow {G : Hp} : ∀ {L : List En} {A : List Addr}, Sls g G H L A → (some v, .ow x) ∈ L → ∃ P, OwR g G H v P x ∧ ∀ a ∈ P, a ∈ A
  | _, _, .nil _, m => by cases m
  | _, _, .no t, m => by
    rcases List.mem_cons.mp m with e | m
    · cases e
    · exact t.mem_ow m
  | _, _, .fz r t, m => by
    rcases List.mem_cons.mp m with e | m
    · cases e
    · exact t.mem_ow m
  | _, _, .ow r t, m => by
    rcases List.mem_cons.mp m with e | m
    · cases e; exact ⟨_, r, fun a h => List.mem_append_left _ h⟩
    · obtain ⟨P, a, b⟩ := t.mem_ow m
      exact ⟨P, a, fun c h => List.mem_append_right _ (b c h)⟩
theorem Sls.mem_some {G : Hp} {ov : Option V} {s : SV} : ∀ {L : List En} {A : List Addr}, Sls g G H L A → (ov, s) ∈ L → s = .no ∨ ∃ v, ov = some v
  | _, _, .nil _, m => by cases m
  | _, _, .no t, m => by
    rcases List.mem_cons.mp m with e | m
    · cases e; exact .inl rfl
    · exact t.mem_some m
  | _, _, .fz r t, m => by
    rcases List.mem_cons.mp m with e | m
    · cases e; exact .inr ⟨_, rfl⟩
    · exact t.mem_some m
  | _, _, .ow r t, m => by
    rcases List.mem_cons.mp m with e | m
    · cases e; exact .inr ⟨_, rfl⟩
    · exact t.mem_some m
theorem Cn.of_rp (h : Rp g (mns H A) v x) : Cn g A H v x := by
  cases x with
  | lst xs =>
    cases h with
    | lst a b => exact ⟨_, _, rfl, mns_le _ _ a, b⟩
  | ins c fs =>
    cases h with
    | ins p a b => exact ⟨p, _, _, _, rfl, mns_le _ _ a, b⟩
  | tset ks =>
    cases h with
    | tset a => exact ⟨_, rfl, mns_le _ _ a⟩
  | map kvs =>
    cases h with
    | map a b c d => exact ⟨_, _, _, rfl, a, b, mns_le _ _ c, d⟩
  | omap kvs => cases h
  | grd s c1 c2 => cases h
  | nset ks => cases h
  | _ => exact h
theorem Cn.of_ow {P : List Addr} (h : OwR g (mns H A) H v P x) : Cn g A H v x := by
  cases x with
  | lst xs =>
    obtain ⟨a, vs, e1, e2, e3, e4⟩ := h
    exact ⟨a, vs, e1, e3, e4⟩
  | ins c fs =>
    obtain ⟨p, a, dx, vs, e1, e2, e3, e4⟩ := h
    exact ⟨p, a, dx, vs, e1, e3, e4⟩
  | tset ks =>
    obtain ⟨a, e1, e2, e3⟩ := h
    exact ⟨a, e1, e3⟩
  | map kvs =>
    obtain ⟨a, o, es, e1, e2, e3, e4, e5, e6⟩ := h
    exact ⟨a, o, es, e1, e3, e4, e5, e6⟩
  | omap kvs =>
    obtain ⟨a, o, es, B, e1, e2, e3, e4, e5, e6⟩ := h
    exact ⟨a, o, es, B, e1, e3, e4, e5, e6⟩
  | nset ks =>
    obtain ⟨a, o, L, e1, e2, e3, e4, e5⟩ := h
    exact ⟨a, o, L, e1, e3, e4, e5⟩
  | grd sy c1 c2 =>
    obtain ⟨cp, a, dx, d1, d2, v1, o1, o2, es1, es2, e1, e2, e3, _⟩ := h
    exact ⟨cp, a, dx, v1, d1, d2, e1, e3⟩
  | _ => exact h.elim
end
inductive EV where
  | vl (s : SV) | bo (i : Nat)
def EV.sv : EV → SV
  | .vl s => s
  | .bo _ => .no
structure Exc where
  c : Str
  f : Str
  x : PV
abbrev Ev := List SV
inductive O (α : Type) where
  | ok (e : Ev) (r : α) | er (e : Ev) (x : Exc)
abbrev FE := Ev → Option (O EV)
abbrev FT := Ev → Option (O Bool)
abbrev FA := Ev → Option (O (List EV))
def bnd {α β : Type} (m : Option (O α)) (k : Ev → α → Option (O β)) : Option (O β) :=
  match m with
  | none => none
  | some (.er e x) => some (.er e x)
  | some (.ok e r) => k e r
theorem bnd_inv {α β : Type} {m : Option (O α)} {k : Ev → α → Option (O β)} {o : O β} (h : bnd m k = some o) : (∃ e x, m = some (.er e x) ∧ o = .er e x) ∨ ∃ e r, m = some (.ok e r) ∧ k e r = some o := by
  unfold bnd at h
  split at h
  · cases h
  · cases h; exact .inl ⟨_, _, rfl, rfl⟩
  · exact .inr ⟨_, _, rfl, h⟩
def BoOk (σ : L2.St) (v : V) : EV → Prop
  | .vl _ => True
  | .bo i => σ[i]? = some (some v)
def PostX (g : Ga) (W : WX) (σ : L2.St) (L : List En) (e : Ev) (x : Exc) : Prop := ∀ d v H', H' d = some (.xd [(x.f, v)]) → SR g H' ((some v, .fz x.x) :: (zp σ e ++ L)) → W (.ref (g.c x.c)) (some d) σ H'
def PostE (g : Ga) (W : WX) (σ : L2.St) (L : List En) (Q : VK) : O EV → Prop
  | .ok e r => ∀ v H', σ.length = e.length → BoOk σ v r → SR g H' ((some v, r.sv) :: (zp σ e ++ L)) → Q v H'
  | .er e x => σ.length = e.length → PostX g W σ L e x
def PostT (g : Ga) (W : WX) (σ : L2.St) (L : List En) (Q : Bool → Hp → Prop) : O Bool → Prop
  | .ok e b => ∀ H', σ.length = e.length → SR g H' (zp σ e ++ L) → Q b H'
  | .er e x => σ.length = e.length → PostX g W σ L e x
def PostA (g : Ga) (W : WX) (σ : L2.St) (L : List En) (Q : List V → Hp → Prop) : O (List EV) → Prop
  | .ok e rs => ∀ vs H', σ.length = e.length → Paired (BoOk σ) vs rs → SR g H' (zp (vs.map some) (rs.map EV.sv) ++ (zp σ e ++ L)) → Q vs H'
  | .er e x => σ.length = e.length → PostX g W σ L e x
def SimE (g : Ga) (W : WX) (t : TE) (f : FE) : Prop := ∀ (H : Hp) (σ : L2.St) (e : Ev) (L : List En) (Q : VK) (o : O EV), σ.length = e.length → SR g H (zp σ e ++ L) → f e = some o → PostE g W σ L Q o → t σ H Q
def SimT (g : Ga) (W : WX) (t : TT) (f : FT) : Prop := ∀ (H : Hp) (σ : L2.St) (e : Ev) (L : List En) (Q : Bool → Hp → Prop) (o : O Bool), σ.length = e.length → SR g H (zp σ e ++ L) → f e = some o → PostT g W σ L Q o → t σ H Q
def SimA (g : Ga) (W : WX) (t : TA) (f : FA) : Prop := ∀ (H : Hp) (σ : L2.St) (e : Ev) (L : List En) (Q : List V → Hp → Prop) (o : O (List EV)), σ.length = e.length → SR g H (zp σ e ++ L) → f e = some o → PostA g W σ L Q o → t σ H Q
theorem PostX.more {g : Ga} {W : WX} {σ : L2.St} {L T : List En} {e : Ev} {x : Exc} (h : PostX g W σ L e x) : PostX g W σ (T ++ L) e x := fun d v H' hd S => h d v H' hd (by
  refine SR.drop (L1 := T) (S.perm ?_)
  rw [← List.cons_append, ← List.cons_append]
  exact pm_app _ _ _)
theorem PostX.more1 {g : Ga} {W : WX} {σ : L2.St} {L : List En} {en : En} {e : Ev} {x : Exc} (h : PostX g W σ L e x) : PostX g W σ (en :: L) e x := PostX.more (T := [en]) h
/-- the content of a value -/
def sc : Option SV → Option PV
  | some (.fz x) => some x
  | some (.ow x) => some x
  | _ => none
theorem sc_inv {o : Option SV} {x : PV} (h : sc o = some x) : o = some (.fz x) ∨ o = some (.ow x) := by
  unfold sc at h
  split at h
  · cases h; exact .inl rfl
  · cases h; exact .inr rfl
  · cases h
def cn (e : Ev) : EV → Option PV
  | .vl s => sc (some s)
  | .bo i => sc e[i]?
/-- changed no more -/
def scF : Option SV → Option PV
  | some (.fz x) => some x
  | some (.ow (.lst xs)) => some (.lst xs)
  | some (.ow (.ins c fs)) => some (.ins c fs)
  | some (.ow (.map kvs)) => some (.map kvs)
  | _ => none
def frzB : PV → Bool
  | .lst _ => true
  | .ins _ _ => true
  | .map _ => true
  | _ => false
theorem scF_inv {o : Option SV} {x : PV} (h : scF o = some x) : o = some (.fz x) ∨ frzB x = true ∧ o = some (.ow x) := by
  unfold scF at h
  split at h
  · cases h; exact .inl rfl
  · cases h; exact .inr ⟨rfl, rfl⟩
  · cases h; exact .inr ⟨rfl, rfl⟩
  · cases h; exact .inr ⟨rfl, rfl⟩
  · cases h
def frz (e : Ev) : EV → Option (Ev × PV)
  | .vl s => (scF (some s)).map fun x => (e, x)
  | .bo i => (scF e[i]?).map fun x => (e.set i (.fz x), x)
def frzs : Ev → List EV → Option (Ev × List PV)
  | e, [] => some (e, [])
  | e, r :: rs => (frz e r).bind fun p => (frzs p.1 rs).map fun q => (q.1, p.2 :: q.2)
theorem frzs_inv {e e' : Ev} {r : EV} {rs : List EV} {ys : List PV} (h : frzs e (r :: rs) = some (e', ys)) : ∃ e1 x xs, frz e r = some (e1, x) ∧ frzs e1 rs = some (e', xs) ∧ ys = x :: xs := by
  obtain ⟨⟨e1, x⟩, h1, h2⟩ := Option.bind_eq_some_iff.mp (show (frz e r).bind (fun p => (frzs p.1 rs).map fun q => (q.1, p.2 :: q.2)) = some (e', ys) from h)
  obtain ⟨⟨e2, xs⟩, h3, h4⟩ := Option.map_eq_some_iff.mp h2
  cases h4
  exact ⟨e1, x, xs, h1, h3, rfl⟩
section
variable {g : Ga} {W : WX} {A : List Addr} {H H' : Hp} {L L' : List En} {v : V} {x : PV} {σ : L2.St} {e e' : Ev} {r : EV}
theorem SRA.cn (h : SRA g A H L) (hz : ∀ en ∈ zp σ e, en ∈ L) (m : (some v, r.sv) ∈ L) (hb : BoOk σ v r) (hc : Sd.cn e r = some x) : Cn g A H v x := by
  cases r with
  | vl s =>
    rcases sc_inv hc with e | e
    · cases e; exact .of_rp (h.sl.mem_fz m)
    · cases e
      obtain ⟨P, a, _⟩ := h.sl.mem_ow m
      exact .of_ow a
  | bo i =>
    have hb' : σ[i]? = some (some v) := hb
    rcases sc_inv hc with e | e
    · exact .of_rp (h.sl.mem_fz (hz _ (zip_mem hb' e)))
    · obtain ⟨P, a, _⟩ := h.sl.mem_ow (hz _ (zip_mem hb' e))
      exact .of_ow a
/-- slot i to the front, and back -/
theorem SR.slot {i : Nat} {ov : Option V} {s : SV} (h : SR g H (zp σ e ++ L)) (h1 : σ[i]? = some ov) (h2 : e[i]? = some s) :
    ∃ R, SR g H ((ov, s) :: R) ∧ (∀ H' s', SR g H' ((ov, s') :: R) → SR g H' (zp σ (e.set i s') ++ L)) ∧ (∀ H' ov' s', SR g H' ((ov', s') :: R) → SR g H' (zp (σ.set i ov') (e.set i s') ++ L)) := by
  obtain ⟨R, a, b, c⟩ := zip_slot h1 h2
  exact ⟨R ++ L, h.perm (a.append_right L), fun H' s' z => z.perm ((b s').append_right L).symm, fun H' ov' s' z => z.perm ((c ov' s').append_right L).symm⟩
theorem SR.swap {a b : En} (h : SR g H (a :: b :: L)) : SR g H (b :: a :: L) := h.perm (List.Perm.swap _ _ _)
theorem SR.drop1 {a b : En} (h : SR g H (a :: b :: L)) : SR g H (a :: L) := h.swap.tail
theorem frz_inv (h : frz e r = some (e', x)) : (∃ s, r = .vl s ∧ (s = .fz x ∨ frzB x = true ∧ s = .ow x) ∧ e' = e) ∨ ∃ i, r = .bo i ∧ (e[i]? = some (.fz x) ∨ frzB x = true ∧ e[i]? = some (.ow x)) ∧ e' = e.set i (.fz x) := by
  cases r with
  | vl s =>
    obtain ⟨y, hy, e2⟩ := Option.map_eq_some_iff.mp (show (scF (some s)).map (fun x => (e, x)) = some (e', x) from h)
    cases e2
    refine .inl ⟨s, rfl, ?_, rfl⟩
    rcases scF_inv hy with z | ⟨hx, z⟩
    · cases z; exact .inl rfl
    · cases z; exact .inr ⟨hx, rfl⟩
  | bo i =>
    obtain ⟨y, hy, e2⟩ := Option.map_eq_some_iff.mp (show (scF e[i]?).map (fun x => (e.set i (SV.fz x), x)) = some (e', x) from h)
    cases e2
    exact .inr ⟨i, rfl, scF_inv hy, rfl⟩
theorem frz_len (h : frz e r = some (e', x)) : e'.length = e.length := by
  rcases frz_inv h with ⟨s, _, _, z⟩ | ⟨i, _, _, z⟩
  · rw [z]
  · rw [z, List.length_set]
theorem frz_ok (S : SR g H ((some v, r.sv) :: (zp σ e ++ L))) (hb : BoOk σ v r) (h : frz e r = some (e', x)) : SR g H ((some v, .fz x) :: (zp σ e' ++ L)) := by
  have frzT : ∀ {R : List En}, frzB x = true → SR g H ((some v, .ow x) :: R) → SR g H ((some v, .fz x) :: R) := fun {R} hx z => by
    cases x with
    | lst xs => exact z.freeze
    | ins c fs => exact z.freezeI
    | map kvs => exact z.freezeM
    | _ => cases hx
  rcases frz_inv h with ⟨s, rfl, z | ⟨hx, z⟩, rfl⟩ | ⟨i, rfl, z, rfl⟩
  · subst z; exact S
  · subst z; exact frzT hx S
  · have hb' : σ[i]? = some (some v) := hb
    have key : ∀ s, e[i]? = some s → (∀ R, SR g H ((some v, s) :: R) → SR g H ((some v, .fz x) :: R)) → SR g H ((some v, .fz x) :: (zp σ (e.set i (.fz x)) ++ L)) := fun s hs f => by
      obtain ⟨R, a, b, _⟩ := (S.tail).slot hb' hs
      obtain ⟨A, z⟩ := b _ _ (f _ a)
      refine (z.push (z.sl.mem_fz (List.mem_append_left _ (zip_mem hb' ?_)))).sr
      have il := (List.getElem?_eq_some_iff.mp hs).1
      rw [List.getElem?_set_self il]
    rcases z with z | ⟨hx, z⟩
    · exact key _ z fun _ a => a
    · exact key _ z fun _ a => frzT hx a
theorem frzs_len : ∀ {rs : List EV} {e e' : Ev} {xs : List PV}, frzs e rs = some (e', xs) → e'.length = e.length ∧ xs.length = rs.length
  | [], e, e', xs, h => by cases h; exact ⟨rfl, rfl⟩
  | r :: rs, e, e', xs, h => by
    obtain ⟨e1, x, ys, h1, h2, rfl⟩ := frzs_inv h
    obtain ⟨a, b⟩ := frzs_len h2
    exact ⟨by rw [a, frz_len h1], by rw [List.length_cons, List.length_cons, b]⟩
theorem frzs_ok : ∀ {rs : List EV} {vs : List V} {e e' : Ev} {xs : List PV} {L : List En}, Paired (BoOk σ) vs rs → SR g H (zp (vs.map some) (rs.map EV.sv) ++ (zp σ e ++ L)) → frzs e rs = some (e', xs) → SR g H (zp (vs.map some) (xs.map SV.fz) ++ (zp σ e' ++ L))
  | [], vs, e, e', xs, L, hp, S, h => by cases h; cases hp; exact S
  | r :: rs, ws, e, e', xs, L, hp, S, h => by
    obtain ⟨e1, x, ys, h1, h2, rfl⟩ := frzs_inv h
    obtain ⟨v, vs, rfl, hb, hp'⟩ : ∃ v vs, ws = v :: vs ∧ BoOk σ v r ∧ Paired (BoOk σ) vs rs := by
      cases hp with
      | cons a b => exact ⟨_, _, rfl, a, b⟩
    have S1 : SR g H ((some v, r.sv) :: (zp σ e ++ (zp (vs.map some) (rs.map EV.sv) ++ L))) := S.perm ((pm_app _ _ _).cons _)
    have S2 := frz_ok S1 hb h1
    have S3 : SR g H (zp (vs.map some) (rs.map EV.sv) ++ (zp σ e1 ++ (some v, .fz x) :: L)) := S2.perm (((pm_app _ _ _).cons _).trans (pm_cons2 _ _ _ _).symm)
    exact (frzs_ok hp' S3 h2).perm (pm_cons2 _ _ _ _)
/-- fixed values in a row -/
theorem SRA.fixed {A : List Addr} : ∀ {vs : List V} {xs : List PV} {L : List En}, vs.length = xs.length → SRA g A H (zp (vs.map some) (xs.map SV.fz) ++ L) → RpL g (mns H A) vs xs
  | [], [], _, _, _ => .nil
  | [], _ :: _, _, hl, _ => by cases hl
  | _ :: _, [], _, hl, _ => by cases hl
  | v :: vs, x :: xs, L, hl, S => by
    have S' : SRA g A H ((some v, .fz x) :: (zp (vs.map some) (xs.map SV.fz) ++ L)) := S
    exact .cons S'.top (SRA.fixed (by simpa using hl) (S'.tail fun _ z => by cases z))
end
end Sd
namespace Sd
open PySem PySem.Spec PyProof.Rows L2
def fVar (i : Nat) : FE := fun e => match e[i]? with
  | some (.fz x) => some (.ok e (.vl (.fz x)))
  | some (.ow _) => some (.ok e (.bo i))
  | _ => none
def fC (x : PV) : FE := fun e => some (.ok e (.vl (.fz x)))
section
variable {g : Ga} {W : WX}
theorem simE_var (i : Nat) : SimE g W (tVar i) (fVar i) := by
  intro H σ e L Q o hl S hf post
  unfold fVar at hf
  split at hf
  · rename_i x hx
    cases hf
    obtain ⟨ov, ho⟩ := slot_at hl hx
    obtain ⟨A, z⟩ := S
    have m := List.mem_append_left L (zip_mem ho hx)
    obtain n | ⟨v, rfl⟩ := z.sl.mem_some m
    · cases n
    exact ⟨v, ho, post v H hl trivial (z.push (z.sl.mem_fz m)).sr⟩
  · rename_i x hx
    cases hf
    obtain ⟨ov, ho⟩ := slot_at hl hx
    have S0 := S
    obtain ⟨A, z⟩ := S
    have m := List.mem_append_left L (zip_mem ho hx)
    obtain n | ⟨v, rfl⟩ := z.sl.mem_some m
    · cases n
    exact ⟨v, ho, post v H hl ho S0.pushNo⟩
  · cases hf
theorem simE_c {v : V} {x : PV} (r : ∀ G, Rp g G v x) : SimE g W (tC v) (fC x) := by
  intro H σ e L Q o hl S hf post
  cases hf
  exact post v H hl trivial (S.scal r)
def Op1Ok (g : Ga) (r : V → Hp → VK → Prop) (p : PV → Option SV) : Prop := ∀ (A : List Addr) (H : Hp) (L : List En) (v : V) (x : PV) (s : SV) (Q : VK), SRA g A H L → Cn g A H v x → p x = some s → (∀ u H', SR g H' ((some u, s) :: L) → Q u H') → r v H Q
def Op2Ok (g : Ga) (r : R2) (p : PV → PV → Option SV) : Prop := ∀ (A : List Addr) (H : Hp) (L : List En) (v w : V) (x y : PV) (s : SV) (Q : VK), SRA g A H L → Cn g A H v x → Cn g A H w y → p x y = some s → (∀ u H', SR g H' ((some u, s) :: L) → Q u H') → r v w H Q
def OpLOk (g : Ga) (r : List V → Hp → VK → Prop) (p : List PV → Option SV) : Prop := ∀ (A : List Addr) (H : Hp) (L : List En) (vs : List V) (xs : List PV) (s : SV) (Q : VK), SRA g A H L → Paired (Cn g A H) vs xs → p xs = some s → (∀ u H', SR g H' ((some u, s) :: L) → Q u H') → r vs H Q
def fUn (p : PV → Option SV) (fa : FE) : FE := fun e => bnd (fa e) fun e1 r1 => (cn e1 r1).bind fun x => (p x).map fun s => .ok e1 (.vl s)
def fOp (p : PV → PV → Option SV) (fa fb : FE) : FE := fun e => bnd (fa e) fun e1 r1 => bnd (fb e1) fun e2 r2 => (cn e2 r1).bind fun x => (cn e2 r2).bind fun y => (p x y).map fun s => .ok e2 (.vl s)
theorem simE_un {r : V → Hp → VK → Prop} {p : PV → Option SV} {ta : TE} {fa : FE} (hr : Op1Ok g r p) (ha : SimE g W ta fa) : SimE g W (tUn r ta) (fUn p fa) := by
  intro H σ e L Q o hl S hf post
  rcases bnd_inv hf with ⟨e1, x, h1, rfl⟩ | ⟨e1, r1, h1, h2⟩
  · exact ha H σ e L _ _ hl S h1 post
  · refine ha H σ e L _ _ hl S h1 fun v H1 hl1 b1 S1 => ?_
    obtain ⟨x, hx, h3⟩ := Option.bind_eq_some_iff.mp h2
    obtain ⟨s, hs, rfl⟩ := Option.map_eq_some_iff.mp h3
    obtain ⟨A, z⟩ := S1
    refine hr A H1 _ v x s Q z (z.cn (σ := σ) (e := e1) (fun en h => List.mem_cons_of_mem _ (List.mem_append_left _ h)) List.mem_cons_self b1 hx) hs fun u H' S' => ?_
    exact post u H' hl1 trivial S'.drop1
theorem simE_op {r : R2} {p : PV → PV → Option SV} {ta tb : TE} {fa fb : FE} (hr : Op2Ok g r p) (ha : SimE g W ta fa) (hb : SimE g W tb fb) : SimE g W (tOp r ta tb) (fOp p fa fb) := by
  intro H σ e L Q o hl S hf post
  rcases bnd_inv hf with ⟨e1, x, h1, rfl⟩ | ⟨e1, r1, h1, h2⟩
  · exact ha H σ e L _ _ hl S h1 post
  · refine ha H σ e L _ _ hl S h1 fun v H1 hl1 b1 S1 => ?_
    rcases bnd_inv h2 with ⟨e2, x, h3, rfl⟩ | ⟨e2, r2, h3, h4⟩
    · exact hb H1 σ e1 ((some v, r1.sv) :: L) _ _ hl1 (S1.perm (pm_cons _ _ _)) h3 fun hl2 => (post hl2).more1
    · refine hb H1 σ e1 ((some v, r1.sv) :: L) _ _ hl1 (S1.perm (pm_cons _ _ _)) h3 fun w H2 hl2 b2 S2 => ?_
      obtain ⟨x, hx, h5⟩ := Option.bind_eq_some_iff.mp h4
      obtain ⟨y, hy, h6⟩ := Option.bind_eq_some_iff.mp h5
      obtain ⟨s, hs, rfl⟩ := Option.map_eq_some_iff.mp h6
      obtain ⟨A, z⟩ := S2
      have sub : ∀ en ∈ zp σ e2, en ∈ (some w, r2.sv) :: (zp σ e2 ++ (some v, r1.sv) :: L) := fun en h => List.mem_cons_of_mem _ (List.mem_append_left _ h)
      refine hr A H2 _ v w x y s Q z (z.cn sub (List.mem_cons_of_mem _ (List.mem_append_right _ List.mem_cons_self)) b1 hx) (z.cn sub List.mem_cons_self b2 hy) hs fun u H' S' => ?_
      refine post u H' hl2 trivial ?_
      have S3 := S'.drop1
      exact SR.drop1 (S3.perm ((pm_cons _ _ _).symm.cons _))
def fNil : FA := fun e => some (.ok e [])
def fCons (fa : FE) (fr : FA) : FA := fun e => bnd (fa e) fun e1 r => bnd (fr e1) fun e2 rs => some (.ok e2 (r :: rs))
theorem simA_nil : SimA g W tNil fNil := by
  intro H σ e L Q o hl S hf post
  cases hf
  exact post [] H hl .nil S
theorem simA_cons {ta : TE} {tr : TA} {fa : FE} {fr : FA} (ha : SimE g W ta fa) (hr : SimA g W tr fr) : SimA g W (tCons ta tr) (fCons fa fr) := by
  intro H σ e L Q o hl S hf post
  rcases bnd_inv hf with ⟨e1, x, h1, rfl⟩ | ⟨e1, r1, h1, h2⟩
  · exact ha H σ e L _ _ hl S h1 post
  · refine ha H σ e L _ _ hl S h1 fun v H1 hl1 b1 S1 => ?_
    rcases bnd_inv h2 with ⟨e2, x, h3, rfl⟩ | ⟨e2, rs, h3, h4⟩
    · exact hr H1 σ e1 ((some v, r1.sv) :: L) _ _ hl1 (S1.perm (pm_cons _ _ _)) h3 fun hl2 => (post hl2).more1
    · cases h4
      refine hr H1 σ e1 ((some v, r1.sv) :: L) _ _ hl1 (S1.perm (pm_cons _ _ _)) h3 fun vs H2 hl2 bs S2 => ?_
      exact post (v :: vs) H2 hl2 (.cons b1 bs) (S2.perm (pm_cons2 _ _ _ _))
def cns (e : Ev) : List EV → Option (List PV)
  | [] => some []
  | r :: rs => (cn e r).bind fun x => (cns e rs).map fun xs => x :: xs
theorem SRA.cns {A : List Addr} {H : Hp} {L : List En} {σ : L2.St} {e : Ev} (h : SRA g A H L) (hz : ∀ en ∈ zp σ e, en ∈ L) : ∀ {vs : List V} {rs : List EV} {xs : List PV}, Paired (BoOk σ) vs rs → (∀ en ∈ zp (vs.map some) (rs.map EV.sv), en ∈ L) → Sd.cns e rs = some xs → Paired (Cn g A H) vs xs
  | [], [], xs, .nil, _, hc => by cases hc; exact .nil
  | v :: vs, r :: rs, ys, .cons b bs, m, hc => by
    obtain ⟨x, hx, h2⟩ := Option.bind_eq_some_iff.mp hc
    obtain ⟨xs, hxs, rfl⟩ := Option.map_eq_some_iff.mp h2
    exact .cons (h.cn hz (m _ List.mem_cons_self) b hx) (SRA.cns h hz bs (fun en hen => m en (List.mem_cons_of_mem _ hen)) hxs)
def fCB (p : List PV → Option SV) (fa : FA) : FE := fun e => bnd (fa e) fun e1 rs => (cns e1 rs).bind fun xs => (p xs).map fun s => .ok e1 (.vl s)
theorem SR.dropZ {H : Hp} {T L : List En} {a : En} (h : SR g H (a :: (T ++ L))) : SR g H (a :: L) := SR.drop (L1 := T) (h.perm (pm_cons _ _ _))
theorem simE_cb {r : List V → Hp → VK → Prop} {p : List PV → Option SV} {ta : TA} {fa : FA} (hr : OpLOk g r p) (ha : SimA g W ta fa) : SimE g W (tCB r ta) (fCB p fa) := by
  intro H σ e L Q o hl S hf post
  rcases bnd_inv hf with ⟨e1, x, h1, rfl⟩ | ⟨e1, rs, h1, h2⟩
  · exact ha H σ e L _ _ hl S h1 post
  · refine ha H σ e L _ _ hl S h1 fun vs H1 hl1 bs S1 => ?_
    obtain ⟨xs, hx, h3⟩ := Option.bind_eq_some_iff.mp h2
    obtain ⟨s, hs, rfl⟩ := Option.map_eq_some_iff.mp h3
    obtain ⟨A, z⟩ := S1
    refine hr A H1 _ vs xs s Q z (z.cns (σ := σ) (e := e1) (fun en h => List.mem_append_right _ (List.mem_append_left _ h)) bs (fun en h => List.mem_append_left _ h) hx) hs fun u H' S' => ?_
    exact post u H' hl1 trivial S'.dropZ
def fTup (fa : FA) : FE := fun e => bnd (fa e) fun e1 rs => (frzs e1 rs).bind fun q => if q.2.length ≤ sizeLine then some (.ok q.1 (.vl (.fz (.tup q.2)))) else none
def fLst (fa : FA) : FE := fun e => bnd (fa e) fun e1 rs => (frzs e1 rs).bind fun q => if q.2.length ≤ sizeLine then some (.ok q.1 (.vl (.ow (.lst q.2)))) else none
theorem simE_tup {ta : TA} {fa : FA} (ha : SimA g W ta fa) : SimE g W (tTup ta) (fTup fa) := by
  intro H σ e L Q o hl S hf post
  rcases bnd_inv hf with ⟨e1, x, h1, rfl⟩ | ⟨e1, rs, h1, h2⟩
  · exact ha H σ e L _ _ hl S h1 post
  · refine ha H σ e L _ _ hl S h1 fun vs H1 hl1 bs S1 => ?_
    obtain ⟨⟨e2, xs⟩, hq, h3⟩ := Option.bind_eq_some_iff.mp h2
    have S2 := frzs_ok bs S1 hq
    obtain ⟨l1, l2⟩ := frzs_len hq
    have hv : vs.length = xs.length := by rw [bs.length]; exact l2.symm
    dsimp only at h3
    split at h3
    · cases h3
      rename_i hz
      obtain ⟨A, z⟩ := S2
      have rl := z.fixed hv
      refine ⟨by rw [hv]; exact hz, fun p hp => ?_⟩
      exact post (.ref p) _ (by rw [l1]; exact hl1) trivial (z.newT hp rl).sr.dropZ
    · cases h3
theorem simE_lst {ta : TA} {fa : FA} (ha : SimA g W ta fa) : SimE g W (tLst ta) (fLst fa) := by
  intro H σ e L Q o hl S hf post
  rcases bnd_inv hf with ⟨e1, x, h1, rfl⟩ | ⟨e1, rs, h1, h2⟩
  · exact ha H σ e L _ _ hl S h1 post
  · refine ha H σ e L _ _ hl S h1 fun vs H1 hl1 bs S1 => ?_
    obtain ⟨⟨e2, xs⟩, hq, h3⟩ := Option.bind_eq_some_iff.mp h2
    have S2 := frzs_ok bs S1 hq
    obtain ⟨l1, l2⟩ := frzs_len hq
    have hv : vs.length = xs.length := by rw [bs.length]; exact l2.symm
    dsimp only at h3
    split at h3
    · cases h3
      rename_i hz
      obtain ⟨A, z⟩ := S2
      have rl := z.fixed hv
      refine ⟨by rw [hv]; exact hz, fun p hp => ?_⟩
      exact post (.ref p) _ (by rw [l1]; exact hl1) trivial (z.newL hp rl).sr.dropZ
    · cases h3
def truth : PV → Option Bool
  | .non => some false
  | .bl b => some b
  | .int i => some (i != 0)
  | .str y => if y.length ≤ sizeLine then some ((y.length : Int) != 0) else none
  | .lst xs => some (!xs.isEmpty)
  | .tup xs => some (!xs.isEmpty)
  | .map kvs => some (!kvs.isEmpty)
  | _ => none
def isBl : PV → Option Bool
  | .bl b => some b
  | _ => none
def fTest (fa : FE) : FT := fun e => bnd (fa e) fun e1 r => (cn e1 r).bind fun x => (isBl x).map fun b => .ok e1 b
def fTru (fa : FE) : FT := fun e => bnd (fa e) fun e1 r => (cn e1 r).bind fun x => (truth x).map fun b => .ok e1 b
def fNot (ft : FT) : FT := fun e => bnd (ft e) fun e1 b => some (.ok e1 (!b))
def fAnd (ft fu : FT) : FT := fun e => bnd (ft e) fun e1 b => if b = true then fu e1 else some (.ok e1 false)
def fOr (ft fu : FT) : FT := fun e => bnd (ft e) fun e1 b => if b = true then some (.ok e1 true) else fu e1
def fYes : FT := fun e => some (.ok e true)
theorem isBl_inv {x : PV} {b : Bool} (h : isBl x = some b) : x = .bl b := by
  cases x <;> cases h
  rfl
theorem simT_test {ta : TE} {fa : FE} (ha : SimE g W ta fa) : SimT g W (tTest ta) (fTest fa) := by
  intro H σ e L Q o hl S hf post
  rcases bnd_inv hf with ⟨e1, x, h1, rfl⟩ | ⟨e1, r1, h1, h2⟩
  · exact ha H σ e L _ _ hl S h1 post
  · refine ha H σ e L _ _ hl S h1 fun v H1 hl1 b1 S1 => ?_
    obtain ⟨x, hx, h3⟩ := Option.bind_eq_some_iff.mp h2
    obtain ⟨b, hb, rfl⟩ := Option.map_eq_some_iff.mp h3
    have S2 := S1.tail
    obtain ⟨A, z⟩ := S1
    have c := z.cn (σ := σ) (e := e1) (fun en h => List.mem_cons_of_mem _ (List.mem_append_left _ h)) List.mem_cons_self b1 hx
    rw [isBl_inv hb] at c
    cases (show Rp g (mns H1 A) v (.bl b) from c)
    exact ⟨b, rfl, post H1 hl1 S2⟩
theorem simT_tru {ta : TE} {fa : FE} (ha : SimE g W ta fa) : SimT g W (tTru2 g.K g.w ta) (fTru fa) := by
  intro H σ e L Q o hl S hf post
  rcases bnd_inv hf with ⟨e1, x, h1, rfl⟩ | ⟨e1, r1, h1, h2⟩
  · exact ha H σ e L _ _ hl S h1 post
  · refine ha H σ e L _ _ hl S h1 fun v H1 hl1 b1 S1 => ?_
    obtain ⟨x, hx, h3⟩ := Option.bind_eq_some_iff.mp h2
    obtain ⟨b, hb, rfl⟩ := Option.map_eq_some_iff.mp h3
    have S2 := S1.tail
    obtain ⟨A, z⟩ := S1
    have c := z.cn (σ := σ) (e := e1) (fun en h => List.mem_cons_of_mem _ (List.mem_append_left _ h)) List.mem_cons_self b1 hx
    have ne : ∀ {vs : List V} {xs : List PV}, RpL g (mns H1 A) vs xs → (!xs.isEmpty) = !vs.isEmpty := fun r => by cases r <;> rfl
    by_cases hm : ∃ kvs, x = .map kvs
    · obtain ⟨kvs, rfl⟩ := hm
      cases hb
      obtain ⟨a, o, es, rfl, sm, d, e1, m⟩ := c
      refine .inr ⟨a, o, es, rfl, RpM.dat sm d e1 m mns_le, ?_⟩
      have ee : es.isEmpty = kvs.isEmpty := by cases m <;> rfl
      rw [ee]
      exact post H1 hl1 S2
    refine .inl ⟨b, ?_, post H1 hl1 S2⟩
    cases x with
    | map kvs => exact (hm ⟨_, rfl⟩).elim
    | non => cases (show Rp g (mns H1 A) v .non from c); cases hb; rfl
    | bl c' => cases (show Rp g (mns H1 A) v (.bl c') from c); cases hb; rfl
    | int i => cases (show Rp g (mns H1 A) v (.int i) from c); cases hb; rfl
    | str y =>
      cases (show Rp g (mns H1 A) v (.str y) from c)
      have hb' : (if y.length ≤ sizeLine then some ((y.length : Int) != 0) else none) = some b := hb
      split at hb'
      · cases hb'; exact ⟨by assumption, rfl⟩
      · cases hb'
    | lst xs =>
      obtain ⟨a, vs, rfl, h4, h5⟩ := c
      cases hb
      rw [ne h5]
      exact .inl ⟨vs, SqL.of h4, rfl⟩
    | tup xs =>
      cases (show Rp g (mns H1 A) v (.tup xs) from c) with
      | tup h4 h5 =>
        cases hb
        rw [ne h5]
        exact .inr (.inl ⟨_, Same.tup mns_le h4, rfl⟩)
    | _ => cases hb
theorem simT_not {t : TT} {f : FT} (h : SimT g W t f) : SimT g W (tNot t) (fNot f) := by
  intro H σ e L Q o hl S hf post
  rcases bnd_inv hf with ⟨e1, x, h1, rfl⟩ | ⟨e1, b, h1, h2⟩
  · exact h H σ e L _ _ hl S h1 post
  · cases h2
    exact h H σ e L _ _ hl S h1 fun H1 hl1 S1 => post H1 hl1 S1
theorem simT_and {t u : TT} {f f' : FT} (h : SimT g W t f) (h' : SimT g W u f') : SimT g W (tAnd t u) (fAnd f f') := by
  intro H σ e L Q o hl S hf post
  rcases bnd_inv hf with ⟨e1, x, h1, rfl⟩ | ⟨e1, b, h1, h2⟩
  · exact h H σ e L _ _ hl S h1 post
  · refine h H σ e L _ _ hl S h1 fun H1 hl1 S1 => ?_
    cases b with
    | true => rw [if_pos rfl]; exact h' H1 σ e1 L _ _ hl1 S1 (by simpa using h2) post
    | false =>
      rw [if_neg Bool.false_ne_true]
      cases (show some (O.ok e1 false) = some o by simpa using h2)
      exact post H1 hl1 S1
theorem simT_or {t u : TT} {f f' : FT} (h : SimT g W t f) (h' : SimT g W u f') : SimT g W (tOr t u) (fOr f f') := by
  intro H σ e L Q o hl S hf post
  rcases bnd_inv hf with ⟨e1, x, h1, rfl⟩ | ⟨e1, b, h1, h2⟩
  · exact h H σ e L _ _ hl S h1 post
  · refine h H σ e L _ _ hl S h1 fun H1 hl1 S1 => ?_
    cases b with
    | false => rw [if_neg Bool.false_ne_true]; exact h' H1 σ e1 L _ _ hl1 S1 (by simpa using h2) post
    | true =>
      rw [if_pos rfl]
      cases (show some (O.ok e1 true) = some o by simpa using h2)
      exact post H1 hl1 S1
theorem simT_yes : SimT g W tYes fYes := by
  intro H σ e L Q o hl S hf post
  cases hf
  exact post H hl S
def fAndV (fa fb : FE) : FE := fun e => bnd (fTest fa e) fun e1 b => if b = true then fb e1 else some (.ok e1 (.vl (.fz (.bl false))))
def fNotV (fa : FE) : FE := fun e => bnd (fTest fa e) fun e1 b => some (.ok e1 (.vl (.fz (.bl (!b)))))
theorem simE_not {ta : TE} {fa : FE} (ha : SimE g W ta fa) : SimE g W (tNotV ta) (fNotV fa) := by
  intro H σ e L Q o hl S hf post
  show tTest ta σ H fun c H1 => Q (.bl (!c)) H1
  rcases bnd_inv hf with ⟨e1, x, h1, rfl⟩ | ⟨e1, b, h1, h2⟩
  · exact simT_test ha H σ e L _ _ hl S h1 post
  · cases h2
    exact simT_test ha H σ e L _ _ hl S h1 fun H1 hl1 S1 => post _ H1 hl1 trivial (S1.scal fun G => .bl _)
theorem simE_and {ta tb : TE} {fa fb : FE} (ha : SimE g W ta fa) (hb : SimE g W tb fb) : SimE g W (tAndV ta tb) (fAndV fa fb) := by
  intro H σ e L Q o hl S hf post
  show tTest ta σ H fun c H1 => if c = true then tb σ H1 Q else Q (.bl false) H1
  rcases bnd_inv hf with ⟨e1, x, h1, rfl⟩ | ⟨e1, b, h1, h2⟩
  · exact simT_test ha H σ e L _ _ hl S h1 post
  · refine simT_test ha H σ e L _ _ hl S h1 fun H1 hl1 S1 => ?_
    cases b with
    | true => rw [if_pos rfl]; exact hb H1 σ e1 L _ _ hl1 S1 (by simpa using h2) post
    | false =>
      rw [if_neg Bool.false_ne_true]
      cases (show some (O.ok e1 (.vl (.fz (.bl false)))) = some o by simpa using h2)
      exact post _ H1 hl1 trivial (S1.scal fun G => .bl _)
def CmpI (r : R2) (p : Int → Int → Bool) : Prop := r = rI0 fun i j => .bl (p i j)
def fChain (p p' : Int → Int → Bool) (fa fb fc : FE) : FE := fun e => bnd (fa e) fun e1 r1 => bnd (fb e1) fun e2 r2 => match cn e2 r1, cn e2 r2 with
  | some (.int i), some (.int j) => if p i j = true then bnd (fc e2) fun e3 r3 => match cn e3 r3 with
    | some (.int k) => some (.ok e3 (.vl (.fz (.bl (p' j k)))))
    | _ => none
    else some (.ok e2 (.vl (.fz (.bl false))))
  | _, _ => none
theorem simE_chain {r r' : R2} {p p' : Int → Int → Bool} {ta tb tc : TE} {fa fb fc : FE} (hr : CmpI r p) (hr' : CmpI r' p') (ha : SimE g W ta fa) (hb : SimE g W tb fb) (hc : SimE g W tc fc) : SimE g W (tChain r r' ta tb tc) (fChain p p' fa fb fc) := by
  intro H σ e L Q o hl S hf post
  rcases bnd_inv hf with ⟨e1, x, h1, rfl⟩ | ⟨e1, r1, h1, h2⟩
  · exact ha H σ e L _ _ hl S h1 post
  · refine ha H σ e L _ _ hl S h1 fun v H1 hl1 b1 S1 => ?_
    rcases bnd_inv h2 with ⟨e2, x, h3, rfl⟩ | ⟨e2, r2, h3, h4⟩
    · exact hb H1 σ e1 ((some v, r1.sv) :: L) _ _ hl1 (S1.perm (pm_cons _ _ _)) h3 fun hl2 => (post hl2).more1
    · refine hb H1 σ e1 ((some v, r1.sv) :: L) _ _ hl1 (S1.perm (pm_cons _ _ _)) h3 fun w H2 hl2 b2 S2 => ?_
      have S3 : SR g H2 (zp σ e2 ++ L) := SR.tail (S2.tail.perm (pm_cons _ _ _).symm)
      split at h4
      · rename_i i j hi hj
        obtain ⟨A, z⟩ := S2
        have sub : ∀ en ∈ zp σ e2, en ∈ (some w, r2.sv) :: (zp σ e2 ++ (some v, r1.sv) :: L) := fun en h => List.mem_cons_of_mem _ (List.mem_append_left _ h)
        cases (show Rp g (mns H2 A) v (.int i) from z.cn sub (List.mem_cons_of_mem _ (List.mem_append_right _ List.mem_cons_self)) b1 hi)
        cases (show Rp g (mns H2 A) w (.int j) from z.cn sub List.mem_cons_self b2 hj)
        rw [hr]
        refine ⟨i, j, rfl, rfl, p i j, rfl, ?_⟩
        split at h4
        · rename_i hp
          rw [if_pos hp]
          rcases bnd_inv h4 with ⟨e3, x, h5, rfl⟩ | ⟨e3, r3, h5, h6⟩
          · exact hc H2 σ e2 L _ _ hl2 S3 h5 post
          · refine hc H2 σ e2 L _ _ hl2 S3 h5 fun u H3 hl3 b3 S4 => ?_
            split at h6
            · rename_i k hk
              cases h6
              have S5 := S4.tail
              obtain ⟨A3, z3⟩ := S4
              cases (show Rp g (mns H3 A3) u (.int k) from z3.cn (fun en h => List.mem_cons_of_mem _ (List.mem_append_left _ h)) List.mem_cons_self b3 hk)
              rw [hr']
              exact ⟨j, k, rfl, rfl, post _ H3 hl3 trivial (S5.scal fun G => .bl _)⟩
            · cases h6
        · rename_i hp
          cases h4
          rw [if_neg hp]
          exact post _ H2 hl2 trivial (S3.scal fun G => .bl _)
      · cases h4
def fPart (fp : Option FE) : Ev → Option (O (Option Int)) := fun e => match fp with
  | none => some (.ok e none)
  | some f => bnd (f e) fun e1 r => match cn e1 r with
    | some (.int i) => some (.ok e1 (some i))
    | _ => none
def PostO (g : Ga) (W : WX) (σ : L2.St) (L : List En) (Q : Option Int → Hp → Prop) : O (Option Int) → Prop
  | .ok e b => ∀ H', σ.length = e.length → SR g H' (zp σ e ++ L) → Q b H'
  | .er e x => σ.length = e.length → PostX g W σ L e x
def SimO (g : Ga) (W : WX) (t : TO) (f : Ev → Option (O (Option Int))) : Prop := ∀ (H : Hp) (σ : L2.St) (e : Ev) (L : List En) (Q : Option Int → Hp → Prop) (o : O (Option Int)), σ.length = e.length → SR g H (zp σ e ++ L) → f e = some o → PostO g W σ L Q o → t σ H Q
theorem simO_none : SimO g W tNoPart (fPart none) := by
  intro H σ e L Q o hl S hf post
  cases hf
  exact post H hl S
theorem simO_some {ta : TE} {fa : FE} (ha : SimE g W ta fa) : SimO g W (tPart ta) (fPart (some fa)) := by
  intro H σ e L Q o hl S hf post
  rcases bnd_inv hf with ⟨e1, x, h1, rfl⟩ | ⟨e1, r1, h1, h2⟩
  · exact ha H σ e L _ _ hl S h1 post
  · refine ha H σ e L _ _ hl S h1 fun v H1 hl1 b1 S1 => ?_
    split at h2
    · rename_i i hi
      cases h2
      have S2 := S1.tail
      obtain ⟨A, z⟩ := S1
      cases (show Rp g (mns H1 A) v (.int i) from z.cn (fun en h => List.mem_cons_of_mem _ (List.mem_append_left _ h)) List.mem_cons_self b1 hi)
      exact ⟨i, rfl, post H1 hl1 S2⟩
    · cases h2
def OpSOk (g : Ga) (r : V → Option Int → Option Int → Hp → VK → Prop) (p : PV → Option Int → Option Int → Option SV) : Prop := ∀ (A : List Addr) (H : Hp) (L : List En) (v : V) (x : PV) (lo hi : Option Int) (s : SV) (Q : VK), SRA g A H L → Cn g A H v x → p x lo hi = some s → (∀ u H', SR g H' ((some u, s) :: L) → Q u H') → r v lo hi H Q
def fSl (p : PV → Option Int → Option Int → Option SV) (fa : FE) (fl fh : Option FE) : FE := fun e => bnd (fa e) fun e1 r => bnd (fPart fl e1) fun e2 lo => bnd (fPart fh e2) fun e3 hi => (cn e3 r).bind fun x => (p x lo hi).map fun s => .ok e3 (.vl s)
theorem simE_sl {r : V → Option Int → Option Int → Hp → VK → Prop} {p : PV → Option Int → Option Int → Option SV} {ta : TE} {tl th : TO} {fa : FE} {fl fh : Option FE} (hr : OpSOk g r p) (ha : SimE g W ta fa) (hl' : SimO g W tl (fPart fl)) (hh : SimO g W th (fPart fh)) : SimE g W (L2.tSl r ta tl th) (fSl p fa fl fh) := by
  intro H σ e L Q o hl S hf post
  rcases bnd_inv hf with ⟨e1, x, h1, rfl⟩ | ⟨e1, r1, h1, h2⟩
  · exact ha H σ e L _ _ hl S h1 post
  · refine ha H σ e L _ _ hl S h1 fun v H1 hl1 b1 S1 => ?_
    rcases bnd_inv h2 with ⟨e2, x, h3, rfl⟩ | ⟨e2, lo, h3, h4⟩
    · exact hl' H1 σ e1 ((some v, r1.sv) :: L) _ _ hl1 (S1.perm (pm_cons _ _ _)) h3 fun hl2 => (post hl2).more1
    · refine hl' H1 σ e1 ((some v, r1.sv) :: L) _ _ hl1 (S1.perm (pm_cons _ _ _)) h3 fun H2 hl2 S2 => ?_
      rcases bnd_inv h4 with ⟨e3, x, h5, rfl⟩ | ⟨e3, hi, h5, h6⟩
      · exact hh H2 σ e2 ((some v, r1.sv) :: L) _ _ hl2 S2 h5 fun hl3 => (post hl3).more1
      · refine hh H2 σ e2 ((some v, r1.sv) :: L) _ _ hl2 S2 h5 fun H3 hl3 S3 => ?_
        obtain ⟨x, hx, h7⟩ := Option.bind_eq_some_iff.mp h6
        obtain ⟨s, hs, rfl⟩ := Option.map_eq_some_iff.mp h7
        obtain ⟨A, z⟩ := S3
        refine hr A H3 _ v x lo hi s Q z (z.cn (σ := σ) (e := e3) (fun en h => List.mem_append_left _ h) (List.mem_append_right _ List.mem_cons_self) b1 hx) hs fun u H' S' => ?_
        exact post u H' hl3 trivial (SR.drop1 (S'.perm ((pm_cons _ _ _).symm.cons _)))
end
end Sd
namespace Sd
open PySem PySem.Spec PyProof.Rows L2
/-- the slots of M hold what they held -/
def Fx (M : List Nat) (σ σ' : L2.St) : Prop := σ'.length = σ.length ∧ ∀ i ∈ M, σ'[i]? = σ[i]?
theorem Fx.refl {M : List Nat} {σ : L2.St} : Fx M σ σ := ⟨rfl, fun _ _ => rfl⟩
theorem Fx.trans {M : List Nat} {a b c : L2.St} (h : Fx M a b) (k : Fx M b c) : Fx M a c := ⟨k.1.trans h.1, fun i m => (k.2 i m).trans (h.2 i m)⟩
abbrev FG := EV → Ev → Option Ev
abbrev FGs := List PV → Ev → Option Ev
def SimG (g : Ga) (M : List Nat) (t : TG) (f : FG) : Prop := ∀ (H : Hp) (σ : L2.St) (e : Ev) (L : List En) (v : V) (r : EV) (Q : L2.St → Hp → Prop) (e' : Ev), σ.length = e.length → BoOk σ v r → SR g H ((some v, r.sv) :: (zp σ e ++ L)) → f r e = some e' →
  (∀ σ' H', σ'.length = e'.length → Fx M σ σ' → SR g H' (zp σ' e' ++ L) → Q σ' H') → t v σ H Q
def fgName (i : Nat) : FG := fun r e => match r with
  | .vl s => if i < e.length then some (e.set i s) else none
  | .bo j => (frz e (.bo j)).bind fun q => if i < q.1.length then some (q.1.set i (.fz q.2)) else none
section
variable {g : Ga} {W : WX} {M : List Nat}
theorem SR.slotP {H : Hp} {σ : L2.St} {e : Ev} {L : List En} {i : Nat} {ov : Option V} {s : SV} (h1 : σ[i]? = some ov) (h2 : e[i]? = some s) :
    ∃ R, (zp σ e ++ L).Perm ((ov, s) :: R) ∧ (∀ s', (zp σ (e.set i s') ++ L).Perm ((ov, s') :: R)) ∧ ∀ ov' s', (zp (σ.set i ov') (e.set i s') ++ L).Perm ((ov', s') :: R) := by
  obtain ⟨R, a, b, c⟩ := zip_slot h1 h2
  exact ⟨R ++ L, a.append_right L, fun s' => (b s').append_right L, fun ov' s' => (c ov' s').append_right L⟩
theorem SR.store {H : Hp} {σ : L2.St} {e : Ev} {L : List En} {i : Nat} {v : V} {s : SV} (hl : σ.length = e.length) (hi : i < e.length) (S : SR g H ((some v, s) :: (zp σ e ++ L))) : SR g H (zp (σ.set i (some v)) (e.set i s) ++ L) := by
  have h2 : e[i]? = some e[i] := List.getElem?_eq_getElem hi
  obtain ⟨ov, h1⟩ := slot_at hl h2
  obtain ⟨R, a, b, c⟩ := SR.slotP (H := H) (L := L) h1 h2
  exact (SR.drop1 (S.perm (a.cons _))).perm (c _ _).symm
theorem simG_name {i : Nat} (hm : M.contains i = false := by rfl) : SimG g M (gName i) (fgName i) := by
  intro H σ e L v r Q e' hl hb S hf q
  have fx : ∀ {σ : L2.St} {ov : Option V}, Fx M σ (σ.set i ov) := ⟨List.length_set, fun j hj => by
    rw [List.getElem?_set_ne]
    rintro rfl
    rw [List.contains_iff_mem.mpr hj] at hm
    cases hm⟩
  cases r with
  | vl s =>
    have hf' : (if i < e.length then some (e.set i s) else none) = some e' := hf
    split at hf'
    · cases hf'
      exact q _ H (by rw [List.length_set, List.length_set]; exact hl) fx (SR.store hl (by assumption) S)
    · cases hf'
  | bo j =>
    obtain ⟨⟨e1, x⟩, h1, h2⟩ := Option.bind_eq_some_iff.mp (show (frz e (.bo j)).bind (fun q => if i < q.1.length then some (q.1.set i (.fz q.2)) else none) = some e' from hf)
    have S1 := frz_ok S hb h1
    have l1 := frz_len h1
    dsimp only at h2
    split at h2
    · cases h2
      exact q _ H (by rw [List.length_set, List.length_set, l1]; exact hl) fx (SR.store (by rw [l1]; exact hl) (by assumption) S1)
    · cases h2
def fgNil : FGs := fun xs e => match xs with
  | [] => some e
  | _ => none
def fgCons (f : FG) (fs : FGs) : FGs := fun xs e => match xs with
  | x :: xs => (f (.vl (.fz x)) e).bind fun e1 => fs xs e1
  | [] => none
def fgTup (n : Nat) (fs : FGs) : FG := fun r e => match cn e r with
  | some (.tup xs) => if xs.length = n then fs xs e else none
  | _ => none
inductive OS where
  | nx (e : Ev) | rt (e : Ev) (s : SV) | bk (e : Ev) | ct (e : Ev) | er (e : Ev) (x : Exc)
abbrev FS := Ev → Option OS
def PostS (g : Ga) (W : WX) (M : List Nat) (σ : L2.St) (L : List En) (D : Ends) : OS → Prop
  | .nx e => ∀ σ' H', σ'.length = e.length → Fx M σ σ' → SR g H' (zp σ' e ++ L) → D.nx σ' H'
  | .bk e => ∀ σ' H', σ'.length = e.length → Fx M σ σ' → SR g H' (zp σ' e ++ L) → D.bk σ' H'
  | .ct e => ∀ σ' H', σ'.length = e.length → Fx M σ σ' → SR g H' (zp σ' e ++ L) → D.ct σ' H'
  | .rt e s => ∀ v σ' H', σ'.length = e.length → Fx M σ σ' → SR g H' ((some v, s) :: (zp σ' e ++ L)) → D.rt v H'
  | .er e x => ∀ σ', σ'.length = e.length → Fx M σ σ' → PostX g W σ' L e x
def SimS (g : Ga) (W : WX) (M : List Nat) (t : TS) (f : FS) : Prop := ∀ (H : Hp) (σ : L2.St) (e : Ev) (L : List En) (D : Ends) (o : OS), σ.length = e.length → SR g H (zp σ e ++ L) → f e = some o → PostS g W M σ L D o → t D σ H
theorem PostS.fx {σ σ' : L2.St} {L : List En} {D : Ends} {o : OS} (h : PostS g W M σ L D o) (f : Fx M σ σ') : PostS g W M σ' L D o := by
  cases o with
  | nx e => exact fun σ2 H' l f2 S => h σ2 H' l (f.trans f2) S
  | bk e => exact fun σ2 H' l f2 S => h σ2 H' l (f.trans f2) S
  | ct e => exact fun σ2 H' l f2 S => h σ2 H' l (f.trans f2) S
  | rt e s => exact fun v σ2 H' l f2 S => h v σ2 H' l (f.trans f2) S
  | er e x => exact fun σ2 l f2 => h σ2 l (f.trans f2)
def fNext : FS := fun e => some (.nx e)
def fSeq (a b : FS) : FS := fun e => match a e with
  | some (.nx e1) => b e1
  | o => o
def bndS {α : Type} (m : Option (O α)) (k : Ev → α → Option OS) : Option OS := match m with
  | none => none
  | some (.er e x) => some (.er e x)
  | some (.ok e r) => k e r
theorem bndS_inv {α : Type} {m : Option (O α)} {k : Ev → α → Option OS} {o : OS} (h : bndS m k = some o) : (∃ e x, m = some (.er e x) ∧ o = .er e x) ∨ ∃ e r, m = some (.ok e r) ∧ k e r = some o := by
  unfold bndS at h
  split at h
  · cases h
  · cases h; exact .inl ⟨_, _, rfl, rfl⟩
  · exact .inr ⟨_, _, rfl, h⟩
def fDrop (fe : FE) : FS := fun e => bndS (fe e) fun e1 _ => some (.nx e1)
def fAsg (fe : FE) (fg : FG) : FS := fun e => bndS (fe e) fun e1 r => (fg r e1).map .nx
def retV (e : Ev) : EV → Option OS
  | .vl s => some (.rt e s)
  | .bo i => match e[i]? with
    | some (.fz x) => some (.rt e (.fz x))
    | some (.ow x) => some (.rt (e.set i .no) (.ow x))
    | _ => none
def fRet (fe : FE) : FS := fun e => bndS (fe e) retV
def fIf (ft : FT) (a b : FS) : FS := fun e => bndS (ft e) fun e1 c => if c = true then a e1 else b e1
theorem simS_next : SimS g W M tNext fNext := by
  intro H σ e L D o hl S hf post
  cases hf
  exact post σ H hl Fx.refl S
theorem simS_seq {t u : TS} {a b : FS} (h : SimS g W M t a) (h' : SimS g W M u b) : SimS g W M (tSeq t u) (fSeq a b) := by
  intro H σ e L D o hl S hf post
  unfold fSeq at hf
  cases ha : a e with
  | none => rw [ha] at hf; cases hf
  | some oa =>
    rw [ha] at hf
    cases oa with
    | nx e1 => exact h H σ e L _ _ hl S ha fun σ1 H1 hl1 f1 S1 => h' H1 σ1 e1 L D o hl1 S1 hf (post.fx f1)
    | rt e1 s => cases hf; exact h H σ e L _ _ hl S ha post
    | bk e1 => cases hf; exact h H σ e L _ _ hl S ha post
    | ct e1 => cases hf; exact h H σ e L _ _ hl S ha post
    | er e1 x => cases hf; exact h H σ e L _ _ hl S ha post
theorem simS_drop {te : TE} {fe : FE} (h : SimE g W te fe) : SimS g W M (tDrop te) (fDrop fe) := by
  intro H σ e L D o hl S hf post
  rcases bndS_inv hf with ⟨e1, x, h1, rfl⟩ | ⟨e1, r, h1, h2⟩
  · exact h H σ e L _ _ hl S h1 fun l => post σ l Fx.refl
  · cases h2
    exact h H σ e L _ _ hl S h1 fun v H1 hl1 b1 S1 => post σ H1 hl1 Fx.refl S1.tail
theorem simS_asg {te : TE} {tg : TG} {fe : FE} {fg : FG} (h : SimE g W te fe) (hg : SimG g M tg fg) : SimS g W M (tAsg te tg) (fAsg fe fg) := by
  intro H σ e L D o hl S hf post
  rcases bndS_inv hf with ⟨e1, x, h1, rfl⟩ | ⟨e1, r, h1, h2⟩
  · exact h H σ e L _ _ hl S h1 fun l => post σ l Fx.refl
  · obtain ⟨e2, h3, rfl⟩ := Option.map_eq_some_iff.mp h2
    exact h H σ e L _ _ hl S h1 fun v H1 hl1 b1 S1 => hg H1 σ e1 L v r _ e2 hl1 b1 S1 h3 fun σ2 H2 hl2 f2 S2 => post σ2 H2 hl2 f2 S2
theorem simS_ret {te : TE} {fe : FE} (h : SimE g W te fe) : SimS g W M (tRet te) (fRet fe) := by
  intro H σ e L D o hl S hf post
  rcases bndS_inv hf with ⟨e1, x, h1, rfl⟩ | ⟨e1, r, h1, h2⟩
  · exact h H σ e L _ _ hl S h1 fun l => post σ l Fx.refl
  · refine h H σ e L _ _ hl S h1 fun v H1 hl1 b1 S1 => ?_
    cases r with
    | vl s => cases h2; exact post v σ H1 hl1 Fx.refl S1
    | bo i =>
      have hb : σ[i]? = some (some v) := b1
      unfold retV at h2
      dsimp only at h2
      split at h2
      · cases h2
        rename_i x hx
        obtain ⟨A, z⟩ := S1.tail
        exact post v σ H1 hl1 Fx.refl (z.push (z.sl.mem_fz (List.mem_append_left _ (zip_mem hb hx)))).sr
      · cases h2
        rename_i x hx
        obtain ⟨R, p1, p2, _⟩ := SR.slotP (H := H1) (L := L) hb hx
        have S2 := SR.swap (SR.pushNo (ov := some v) (S1.tail.perm p1))
        exact post v σ H1 (by rw [List.length_set]; exact hl1) Fx.refl (S2.perm ((p2 .no).symm.cons _))
      · cases h2
theorem simS_if {tc : TT} {fc : FT} {t u : TS} {a b : FS} (hc : SimT g W tc fc) (h : SimS g W M t a) (h' : SimS g W M u b) : SimS g W M (tIfS tc t u) (fIf fc a b) := by
  intro H σ e L D o hl S hf post
  rcases bndS_inv hf with ⟨e1, x, h1, rfl⟩ | ⟨e1, c, h1, h2⟩
  · exact hc H σ e L _ _ hl S h1 fun l => post σ l Fx.refl
  · refine hc H σ e L _ _ hl S h1 fun H1 hl1 S1 => ?_
    cases c with
    | true => rw [if_pos rfl]; exact h H1 σ e1 L D o hl1 S1 (by simpa using h2) post
    | false => rw [if_neg Bool.false_ne_true]; exact h' H1 σ e1 L D o hl1 S1 (by simpa using h2) post
def fWhile : Nat → FT → FS → FS
  | 0, _, _ => fun _ => none
  | n + 1, ft, fb => fun e => bndS (ft e) fun e1 c => if c = true then (match fb e1 with
    | some (.nx e2) => fWhile n ft fb e2
    | some (.ct e2) => fWhile n ft fb e2
    | some (.bk e2) => some (.nx e2)
    | o => o) else some (.nx e1)
theorem simS_while {n : Nat} {tc : TT} {tb : TS} {fc : FT} {fb : FS} (hc : SimT g W tc fc) (hb : SimS g W M tb fb) : SimS g W M (tWhile tc tb) (fWhile n fc fb) := by
  intro H σ e L D o hl S hf post
  refine ⟨fun m σ1 H1 => ∃ e1, σ1.length = e1.length ∧ Fx M σ σ1 ∧ SR g H1 (zp σ1 e1 ++ L) ∧ fWhile m fc fb e1 = some o, ⟨n, e, hl, Fx.refl, S, hf⟩, ?_⟩
  rintro m σ1 H1 ⟨e1, hl1, f1, S1, hw⟩
  cases m with
  | zero => cases hw
  | succ m =>
    rcases bndS_inv (show bndS (fc e1) (fun e1 c => if c = true then (match fb e1 with
      | some (.nx e2) => fWhile m fc fb e2
      | some (.ct e2) => fWhile m fc fb e2
      | some (.bk e2) => some (.nx e2)
      | o => o) else some (.nx e1)) = some o from hw) with ⟨e2, x, h1, rfl⟩ | ⟨e2, c, h1, h2⟩
    · exact hc H1 σ1 e1 L _ _ hl1 S1 h1 fun l => post σ1 l f1
    · refine hc H1 σ1 e1 L _ _ hl1 S1 h1 fun H2 hl2 S2 => ?_
      cases c with
      | false =>
        rw [if_neg Bool.false_ne_true] at h2 ⊢
        cases h2
        exact post σ1 H2 hl2 f1 S2
      | true =>
        rw [if_pos rfl] at h2 ⊢
        refine ⟨fun σ' H' => ∃ e', σ'.length = e'.length ∧ Fx M σ σ' ∧ SR g H' (zp σ' e' ++ L) ∧ fWhile m fc fb e' = some o, fun σ' H' z => ⟨m, Nat.lt_succ_self m, z⟩, ?_⟩
        cases hbe : fb e2 with
        | none => rw [hbe] at h2; cases h2
        | some ob =>
          rw [hbe] at h2
          cases ob with
          | nx e3 => exact hb H2 σ1 e2 L _ _ hl2 S2 hbe fun σ3 H3 hl3 f3 S3 => ⟨e3, hl3, f1.trans f3, S3, h2⟩
          | ct e3 => exact hb H2 σ1 e2 L _ _ hl2 S2 hbe fun σ3 H3 hl3 f3 S3 => ⟨e3, hl3, f1.trans f3, S3, h2⟩
          | bk e3 => cases h2; exact hb H2 σ1 e2 L _ _ hl2 S2 hbe fun σ3 H3 hl3 f3 S3 => post σ3 H3 hl3 (f1.trans f3) S3
          | rt e3 s => cases h2; exact hb H2 σ1 e2 L _ _ hl2 S2 hbe fun v σ3 H3 hl3 f3 S3 => post v σ3 H3 hl3 (f1.trans f3) S3
          | er e3 x => cases h2; exact hb H2 σ1 e2 L _ _ hl2 S2 hbe fun σ3 hl3 f3 => post σ3 hl3 (f1.trans f3)
structure ItR (g : Ga) (J : It) (ens : List En) (xs : List PV) : Prop where
  go : ∀ (i : Nat) (H : Hp) (L : List En), SR g H (ens ++ L) → i < xs.length → J.go i H
  yl : ∀ (i : Nat) (H : Hp) (L : List En) (u : V) (H' : Hp) (x : PV), SR g H (ens ++ L) → xs[i]? = some x → J.yld i H u H' → SR g H' ((some u, .fz x) :: (ens ++ L))
  st : ∀ (H : Hp) (L : List En), SR g H (ens ++ L) → J.stop xs.length H
/-- with one entry -/
structure ItR1 (g : Ga) (J : It) (en : En) (xs : List PV) : Prop where
  go : ∀ (i : Nat) (H : Hp) (L : List En), SR g H (en :: L) → i < xs.length → J.go i H
  yl : ∀ (i : Nat) (H : Hp) (L : List En) (u : V) (H' : Hp) (x : PV), SR g H (en :: L) → xs[i]? = some x → J.yld i H u H' → SR g H' ((some u, .fz x) :: en :: L)
  st : ∀ (i : Nat) (H : Hp) (L : List En), SR g H (en :: L) → xs.length ≤ i → J.stop i H
theorem ItR1.up {g : Ga} {J : It} {en : En} {xs : List PV} (r : ItR1 g J en xs) : ItR g J [en] xs := ⟨fun i H L S hi => r.go i H L S hi, fun i H L u H' x S hx y => r.yl i H L u H' x S hx y, fun H L S => r.st _ H L S (Nat.le_refl _)⟩
abbrev FI := Ev → Option (O (List PV))
def PostI (g : Ga) (W : WX) (σ : L2.St) (L : List En) (R : It → Hp → Prop) : O (List PV) → Prop
  | .ok e xs => ∀ J ens H', σ.length = e.length → ItR g J ens xs → SR g H' (ens ++ (zp σ e ++ L)) → R J H'
  | .er e x => σ.length = e.length → PostX g W σ L e x
def SimI (g : Ga) (W : WX) (t : TI) (f : FI) : Prop := ∀ (H : Hp) (σ : L2.St) (e : Ev) (L : List En) (R : It → Hp → Prop) (o : O (List PV)), σ.length = e.length → SR g H (zp σ e ++ L) → f e = some o → PostI g W σ L R o → t σ H R
def loopS (fg : FG) (fb : FS) : List PV → Ev → Option OS
  | [], e => some (.nx e)
  | x :: xs, e => (fg (.vl (.fz x)) e).bind fun e1 => match fb e1 with
    | some (.nx e2) => loopS fg fb xs e2
    | some (.ct e2) => loopS fg fb xs e2
    | some (.bk e2) => some (.nx e2)
    | o => o
def fFor (fi : FI) (fg : FG) (fb : FS) : FS := fun e => bndS (fi e) fun e1 xs => loopS fg fb xs e1
theorem simS_for {wi : TI} {tg : TG} {tb : TS} {fi : FI} {fg : FG} {fb : FS} (hi : SimI g W wi fi) (hg : SimG g M tg fg) (hb : SimS g W M tb fb) : SimS g W M (tFor wi tg tb) (fFor fi fg fb) := by
  intro H σ e L D o hl S hf post
  rcases bndS_inv hf with ⟨e1, x, h1, rfl⟩ | ⟨e1, xs, h1, h2⟩
  · exact hi H σ e L _ _ hl S h1 fun l => post σ l Fx.refl
  · refine hi H σ e L _ _ hl S h1 fun J ens H1 hl1 R S1 => ?_
    refine ⟨fun i m σ2 H2 => m = xs.length - i ∧ i ≤ xs.length ∧ ∃ e2, σ2.length = e2.length ∧ Fx M σ σ2 ∧ SR g H2 (ens ++ (zp σ2 e2 ++ L)) ∧ loopS fg fb (xs.drop i) e2 = some o, ⟨xs.length, by simp, Nat.zero_le _, e1, hl1, Fx.refl, S1, h2⟩, ?_⟩
    rintro i m σ2 H2 ⟨rfl, il, e2, hl2, f2, S2, hw⟩
    by_cases hlt : i < xs.length
    · have hd : xs.drop i = xs[i] :: xs.drop (i + 1) := List.drop_eq_getElem_cons hlt
      rw [hd] at hw
      obtain ⟨e3, h3, h4⟩ := Option.bind_eq_some_iff.mp (show (fg (.vl (.fz xs[i])) e2).bind (fun e1 => match fb e1 with
        | some (.nx e2) => loopS fg fb (xs.drop (i + 1)) e2
        | some (.ct e2) => loopS fg fb (xs.drop (i + 1)) e2
        | some (.bk e2) => some (.nx e2)
        | o => o) = some o from hw)
      refine .inr ⟨R.go i H2 _ S2 hlt, fun σ' H' => ∃ e', σ'.length = e'.length ∧ Fx M σ σ' ∧ SR g H' (ens ++ (zp σ' e' ++ L)) ∧ loopS fg fb (xs.drop (i + 1)) e' = some o, fun σ' H' z => ⟨xs.length - (i + 1), by omega, rfl, hlt, z⟩, fun u H3 hy => ?_⟩
      have S3 := R.yl i H2 _ u H3 xs[i] S2 (List.getElem?_eq_getElem hlt) hy
      refine hg H3 σ2 e2 (ens ++ L) u (.vl (.fz xs[i])) _ e3 hl2 trivial (S3.perm ((pm_app _ _ _).cons _)) h3 fun σ4 H4 hl4 f4 S4 => ?_
      cases hbe : fb e3 with
      | none => rw [hbe] at h4; cases h4
      | some ob =>
        rw [hbe] at h4
        cases ob with
        | nx e5 => exact hb H4 σ4 e3 (ens ++ L) _ _ hl4 S4 hbe fun σ5 H5 hl5 f5 S5 => ⟨e5, hl5, (f2.trans f4).trans f5, S5.perm (pm_app _ _ _).symm, h4⟩
        | ct e5 => exact hb H4 σ4 e3 (ens ++ L) _ _ hl4 S4 hbe fun σ5 H5 hl5 f5 S5 => ⟨e5, hl5, (f2.trans f4).trans f5, S5.perm (pm_app _ _ _).symm, h4⟩
        | bk e5 => cases h4; exact hb H4 σ4 e3 (ens ++ L) _ _ hl4 S4 hbe fun σ5 H5 hl5 f5 S5 => post σ5 H5 hl5 ((f2.trans f4).trans f5) (SR.drop (L1 := ens) (S5.perm (pm_app _ _ _).symm))
        | rt e5 s => cases h4; exact hb H4 σ4 e3 (ens ++ L) _ _ hl4 S4 hbe fun v σ5 H5 hl5 f5 S5 => post v σ5 H5 hl5 ((f2.trans f4).trans f5) (SR.dropZ (S5.perm ((pm_app _ _ _).symm.cons _)))
        | er e5 x => cases h4; exact hb H4 σ4 e3 (ens ++ L) _ _ hl4 S4 hbe fun σ5 hl5 f5 => PostX.more (T := ens) (post σ5 hl5 ((f2.trans f4).trans f5))
    · have e : i = xs.length := by omega
      subst e
      rw [List.drop_length] at hw
      cases hw
      exact .inl ⟨R.st H2 _ S2, post σ2 H2 hl2 f2 (SR.drop (L1 := ens) S2)⟩
end
end Sd
namespace Sd
open PySem PySem.Spec PyProof.Rows L2
section
variable {g : Ga} {W : WX} {M : List Nat}
theorem itr_list {a : Addr} {xs : List PV} : ItR1 g (Itl g.K a) (some (.ref a), .fz (.lst xs)) xs where
  go := fun i H L S hi => by
    obtain ⟨A, z⟩ := S
    cases z.top with
    | lst h1 h2 =>
      have hl := h2.length
      exact ⟨_, _, SqL.of (mns_le _ _ h1), List.getElem?_eq_getElem (by omega)⟩
  yl := fun i H L u H' x S hx y => by
    obtain ⟨rfl, hy⟩ := y
    obtain ⟨A, z⟩ := S
    cases z.top with
    | lst h1 h2 =>
      obtain ⟨v, hv, r⟩ := h2.get hx
      have e := hy _ (SqL.of (mns_le _ _ h1))
      rw [hv] at e; cases e
      exact (z.push r).sr
  st := fun i H L S hi => by
    obtain ⟨A, z⟩ := S
    cases z.top with
    | lst h1 h2 =>
      have hl := h2.length
      exact ⟨_, SqL.of (mns_le _ _ h1), by omega⟩
theorem itr_scr {a : Addr} {ns : List Int} : ItR1 g (Itl g.K a) (some (.ref a), .fz (.scr ns)) (ns.map PV.int) where
  go := fun i H L S hi => by
    obtain ⟨A, z⟩ := S
    cases z.top with
    | scr h1 =>
      rw [List.length_map] at hi
      exact ⟨_, _, mns_le.seq h1, List.getElem?_eq_getElem (by rw [List.length_map]; exact hi)⟩
  yl := fun i H L u H' x S hx y => by
    obtain ⟨rfl, hy⟩ := y
    obtain ⟨A, z⟩ := S
    cases z.top with
    | scr h1 =>
      have e := hy _ (mns_le.seq h1)
      rw [List.getElem?_map] at e hx
      cases q : ns[i]? with
      | none => rw [q] at hx; cases hx
      | some n =>
        rw [q] at hx e
        cases hx; cases e
        exact (z.push (.int n)).sr
  st := fun i H L S hi => by
    obtain ⟨A, z⟩ := S
    cases z.top with
    | scr h1 =>
      rw [List.length_map] at hi
      exact ⟨_, mns_le.seq h1, by rw [List.length_map]; exact hi⟩
theorem itr_tup {a : Addr} {xs : List PV} : ItR1 g (Itt g.K a) (some (.ref a), .fz (.tup xs)) xs where
  go := fun i H L S hi => by
    obtain ⟨A, z⟩ := S
    cases z.top with
    | tup h1 h2 =>
      have hl := h2.length
      exact ⟨_, _, Same.tup mns_le h1, List.getElem?_eq_getElem (by omega)⟩
  yl := fun i H L u H' x S hx y => by
    obtain ⟨rfl, hy⟩ := y
    obtain ⟨A, z⟩ := S
    cases z.top with
    | tup h1 h2 =>
      obtain ⟨v, hv, r⟩ := h2.get hx
      have e := hy _ (Same.tup mns_le h1)
      rw [hv] at e; cases e
      exact (z.push r).sr
  st := fun i H L S hi => by
    obtain ⟨A, z⟩ := S
    cases z.top with
    | tup h1 h2 =>
      have hl := h2.length
      exact ⟨_, Same.tup mns_le h1, by omega⟩
def rngF (lo : Int) (n : Nat) : List PV := (List.range n).map fun (i : Nat) => PV.int (lo + (i : Int))
theorem itr_rng {lo : Int} {n : Nat} : ItR1 g (Itr lo n) (none, .no) (rngF lo n) where
  go := fun i H L S hi => by
    unfold rngF at hi
    rw [List.length_map, List.length_range] at hi
    exact hi
  yl := fun i H L u H' x S hx y => by
    obtain ⟨rfl, rfl⟩ := y
    unfold rngF at hx
    rw [List.getElem?_map] at hx
    obtain ⟨j, hj, rfl⟩ := Option.map_eq_some_iff.mp hx
    obtain ⟨_, e⟩ := List.getElem?_eq_some_iff.mp hj
    rw [List.getElem_range] at e
    subst e
    exact S.scal fun G => .int _
  st := fun i H L S hi => by
    unfold rngF at hi
    rw [List.length_map, List.length_range] at hi
    exact hi
def strF (z : Str) : List PV := z.cps.toList.map fun c => PV.str ⟨#[c]⟩
theorem itr_str {z : Str} : ItR1 g (Its z) (none, .no) (strF z) where
  go := fun i H L S hi => by
    unfold strF at hi
    rw [List.length_map, Array.length_toList] at hi
    exact hi
  yl := fun i H L u H' x S hx y => by
    obtain ⟨rfl, c, hc, rfl⟩ := y
    unfold strF at hx
    rw [List.getElem?_map, Array.getElem?_toList, hc] at hx
    cases hx
    exact S.scal fun G => .str _
  st := fun i H L S hi => by
    unfold strF at hi
    rw [List.length_map, Array.length_toList] at hi
    exact hi
/-- a list or a tuple, whichever it is -/
def fiSeq (fe : FE) : FI := fun e => bnd (fe e) fun e1 r => (frz e1 r).bind fun q => match q.2 with
  | .lst xs => some (.ok q.1 xs)
  | .tup xs => some (.ok q.1 xs)
  | .scr ns => some (.ok q.1 (ns.map PV.int))
  | .map kvs => some (.ok q.1 (kvs.map (·.1)))
  | _ => none
theorem itr_keys {a : Addr} {o : Obj} {es : List NE} {kvs : List (PV × PV)} : ItR1 g (Itn a o es) (some (.ref a), .fz (.mapO o es kvs)) (kvs.map (·.1)) where
  go := fun i H L S hi => by
    obtain ⟨A, z⟩ := S
    cases z.top with
    | mapO sm d e1 m => exact ⟨mns_le _ _ e1, by rw [m.len]; rw [List.length_map] at hi; exact hi⟩
  yl := fun i H L u H' x S hx y => by
    obtain ⟨rfl, e, h1, rfl⟩ := y
    obtain ⟨A, z⟩ := S
    cases z.top with
    | mapO sm d e1 m =>
      obtain ⟨p, h2, h3⟩ := m.get h1
      rw [List.getElem?_map, h2] at hx
      cases hx
      exact (z.push h3).sr
  st := fun i H L S hi => by
    obtain ⟨A, z⟩ := S
    cases z.top with
    | mapO sm d e1 m => exact ⟨mns_le _ _ e1, by rw [m.len]; rw [List.length_map] at hi; exact hi⟩
theorem simI_seq {te : TE} {fe : FE} (h : SimE g W te fe) : SimI g W (iSeq2 g.K g.w te) (fiSeq fe) := by
  intro H σ e L R o hl S hf post
  rcases bnd_inv hf with ⟨e1, x, h1, rfl⟩ | ⟨e1, r, h1, h2⟩
  · exact .inl (.inl (h H σ e L _ _ hl S h1 post))
  · obtain ⟨⟨e2, x⟩, h3, h4⟩ := Option.bind_eq_some_iff.mp h2
    dsimp only at h4
    have l2 := frz_len h3
    split at h4
    · cases h4
      refine .inl (.inl (h H σ e L _ _ hl S h1 fun v H1 hl1 b1 S1 => ?_))
      have S2 := frz_ok S1 b1 h3
      have S3 := S2
      obtain ⟨A, z⟩ := S2
      cases z.top with
      | lst a1 a2 => exact ⟨_, rfl, ⟨_, SqL.of (mns_le _ _ a1)⟩, post _ _ H1 (by rw [l2]; exact hl1) itr_list.up S3⟩
    · cases h4
      refine .inl (.inr (h H σ e L _ _ hl S h1 fun v H1 hl1 b1 S1 => ?_))
      have S2 := frz_ok S1 b1 h3
      have S3 := S2
      obtain ⟨A, z⟩ := S2
      cases z.top with
      | tup a1 a2 => exact ⟨_, rfl, ⟨_, Same.tup mns_le a1⟩, post _ _ H1 (by rw [l2]; exact hl1) itr_tup.up S3⟩
    · cases h4
      refine .inl (.inl (h H σ e L _ _ hl S h1 fun v H1 hl1 b1 S1 => ?_))
      have S2 := frz_ok S1 b1 h3
      have S3 := S2
      obtain ⟨A, z⟩ := S2
      cases z.top with
      | scr a1 => exact ⟨_, rfl, ⟨_, mns_le.seq a1⟩, post _ _ H1 (by rw [l2]; exact hl1) itr_scr.up S3⟩
    · cases h4
      rename_i kvs _
      refine .inr (h H σ e L _ _ hl S h1 fun v H1 hl1 b1 S1 => ?_)
      have S2 := frz_ok S1 b1 h3
      have S3 := S2
      obtain ⟨A, z⟩ := S2
      cases z.top with
      | @map a o es _ sm d e1 m =>
        exact ⟨_, o, es, rfl, RpM.dat sm d (mns_le _ _ e1) m mns_le, post _ _ H1 (by rw [l2]; exact hl1) itr_keys.up ((z.push (.mapO sm d e1 m)).sr.drop1)⟩
    · cases h4
/-- a number that range takes (no instance of its own: it is never reckoned) -/
def rngOk (j : Int) : Prop := -(2 ^ 62) ≤ j ∧ j < 2 ^ 62
open Classical in
noncomputable def fiRng1 (fa : FA) : FI := fun e => bnd (fa e) fun e1 rs => match cns e1 rs with
  | some [.int j] => if rngOk j then some (.ok e1 (rngF 0 j.toNat)) else none
  | _ => none
theorem simI_rng1 {ta : TA} {fa : FA} (ha : SimA g W ta fa) : SimI g W (iRng1 ta) (fiRng1 fa) := by
  intro H σ e L R o hl S hf post
  rcases bnd_inv hf with ⟨e1, x, h1, rfl⟩ | ⟨e1, rs, h1, h2⟩
  · exact ha H σ e L _ _ hl S h1 post
  · refine ha H σ e L _ _ hl S h1 fun vs H1 hl1 bs S1 => ?_
    split at h2
    · rename_i j hj
      split at h2
      · rename_i hb
        cases h2
        have S2 := SR.drop S1
        obtain ⟨A, z⟩ := S1
        have c := z.cns (σ := σ) (e := e1) (fun en h => List.mem_append_right _ (List.mem_append_left _ h)) bs (fun en h => List.mem_append_left _ h) hj
        cases c with
        | cons a b =>
          cases b
          cases (show Rp g (mns H1 A) _ (.int j) from a)
          exact ⟨j, rfl, hb.1, hb.2, post _ _ H1 hl1 itr_rng.up S2.pushNo⟩
      · cases h2
    · cases h2
def fiStr (fe : FE) : FI := fun e => bnd (fe e) fun e1 r => match cn e1 r with
  | some (.str z) => some (.ok e1 (strF z))
  | _ => none
theorem simI_str {te : TE} {fe : FE} (h : SimE g W te fe) : SimI g W (iStr te) (fiStr fe) := by
  intro H σ e L R o hl S hf post
  rcases bnd_inv hf with ⟨e1, x, h1, rfl⟩ | ⟨e1, r, h1, h2⟩
  · exact h H σ e L _ _ hl S h1 post
  · refine h H σ e L _ _ hl S h1 fun v H1 hl1 b1 S1 => ?_
    split at h2
    · rename_i z hz
      cases h2
      have S2 := S1.tail
      obtain ⟨A, y⟩ := S1
      cases (show Rp g (mns H1 A) v (.str z) from y.cn (σ := σ) (e := e1) (fun en h => List.mem_cons_of_mem _ (List.mem_append_left _ h)) List.mem_cons_self b1 hz)
      exact ⟨z, rfl, post _ _ H1 hl1 itr_str.up S2.pushNo⟩
    · cases h2
inductive RS where
  | ok (s : SV) | er (x : Exc)
abbrev PF := List SV → Option (List SV × RS)
def PSp (g : Ga) (n : Nat) (F : PF) : Sp := fun vs H Q E => ∃ L as as' o, vs.length = n ∧ as.length = n ∧ as'.length = n ∧ SR g H (zp (vs.map some) as ++ L) ∧ F as = some (as', o) ∧ (match o with
  | .ok s => ∀ v H', SR g H' ((some v, s) :: (zp (vs.map some) as' ++ L)) → Q v H'
  | .er x => ∀ d v H', H' d = some (.xd [(x.f, v)]) → SR g H' ((some v, .fz x.x) :: (zp (vs.map some) as' ++ L)) → E (.ref (g.c x.c)) (some d) H')
theorem PSp.len {n : Nat} {F : PF} {vs : List V} {H : Hp} {Q : VK} {E : XK} (h : PSp g n F vs H Q E) : vs.length = n := by
  obtain ⟨_, _, _, _, h, _⟩ := h; exact h
def maskF (M : List Nat) : Nat → Nat → Ev → List SV
  | _, 0, _ => []
  | j, k + 1, [] => .no :: maskF M (j + 1) k []
  | j, k + 1, s :: e => (if M.contains j then s else .no) :: maskF M (j + 1) k e
theorem maskF_len (M : List Nat) : ∀ (k j : Nat) (e : Ev), (maskF M j k e).length = k
  | 0, _, _ => by simp [maskF]
  | k + 1, j, [] => by rw [maskF, List.length_cons, maskF_len M k]
  | k + 1, j, s :: e => by rw [maskF, List.length_cons, maskF_len M k]
theorem SR.toNo {H : Hp} {L : List En} {en : En} {ov : Option V} (h : SR g H (en :: L)) : SR g H ((ov, .no) :: L) := h.tail.pushNo
theorem SR.mask {H : Hp} : ∀ (σ2 σ : L2.St) (e : Ev) (j : Nat) (L : List En), (∀ i, M.contains (j + i) = true → i < σ2.length → σ2[i]? = σ[i]?) → σ2.length ≤ σ.length → σ.length = e.length → SR g H (zp σ e ++ L) → SR g H (zp σ2 (maskF M j σ2.length e) ++ L)
  | [], σ, e, j, L, _, _, _, S => SR.drop S
  | o2 :: σ2, [], e, j, L, _, hl, _, S => by simp at hl
  | o2 :: σ2, o :: σ, [], j, L, _, _, hl, S => by simp at hl
  | o2 :: σ2, o :: σ, s :: e, j, L, hm, hl, hl2, S => by
    have ih : ∀ en, SR g H (zp σ e ++ en :: L) → SR g H (zp σ2 (maskF M (j + 1) σ2.length e) ++ en :: L) := fun en S' => SR.mask σ2 σ e (j + 1) (en :: L) (fun i h1 h2 => by
      have := hm (i + 1) (by rw [← h1]; congr 1; omega) (by simpa using h2)
      simpa using this) (by simpa using hl) (by simpa using hl2) S'
    show SR g H ((o2, if M.contains j then s else .no) :: (zp σ2 (maskF M (j + 1) σ2.length e) ++ L))
    have S0 : SR g H ((o, s) :: (zp σ e ++ L)) := S
    cases hc : M.contains j with
    | true =>
      have e0 : o2 = o := by
        have := hm 0 (by simpa using hc) (by simp)
        simpa using this
      subst e0
      rw [if_pos rfl]
      exact (ih _ (S0.perm (pm_cons _ _ _))).perm (pm_cons _ _ _).symm
    | false =>
      rw [if_neg Bool.false_ne_true]
      exact (ih _ ((S0.toNo (ov := o2)).perm (pm_cons _ _ _))).perm (pm_cons _ _ _).symm
def fnOf (M : List Nat) (n k : Nat) (f : FS) : PF := fun as => match f (as ++ List.replicate (n - k) .no) with
  | some (.nx e) => some (maskF M 0 k e, .ok (.fz .non))
  | some (.rt e s) => some (maskF M 0 k e, .ok s)
  | some (.er e x) => some (maskF M 0 k e, .er x)
  | _ => none
theorem SR.pad {H : Hp} {L : List En} : ∀ (m : Nat), SR g H L → SR g H (zp (List.replicate m none) (List.replicate m .no) ++ L)
  | 0, h => h
  | m + 1, h => (SR.pad m h).pushNo
def wOf (E : XK) : WX := fun c d _ H => E c d H
theorem pure_fn {N : List Str} {n k : Nat} {f : FS} {t : TS} {vs : List V} {H : Hp} {Q : VK} {E : XK} (hN : N.length = n) (hs : SimS g (wOf E) M t f) (hk : k ≤ n) (h : PSp g k (fnOf M n k f) vs H Q E) : t { nx := fun _ H' => Q .non H', rt := Q } (L2.start N vs) H := by
  obtain ⟨L, as, as', o, h1, h2, h3, S, hf, post⟩ := h
  have e0 : L2.start N vs = vs.map some ++ List.replicate (n - k) none := by unfold L2.start; rw [hN, h1]
  rw [e0]
  have z0 : zp (vs.map some ++ List.replicate (n - k) none) (as ++ List.replicate (n - k) .no) = zp (vs.map some) as ++ zp (List.replicate (n - k) none) (List.replicate (n - k) .no) := List.zip_append (by rw [List.length_map, h1, h2])
  have S1 : SR g H (zp (vs.map some ++ List.replicate (n - k) none) (as ++ List.replicate (n - k) .no) ++ L) := by
    rw [z0, List.append_assoc]
    exact (SR.pad (n - k) S).perm (pm_app _ _ _)
  have hl : (vs.map some ++ List.replicate (n - k) none).length = (as ++ List.replicate (n - k) SV.no).length := by
    rw [List.length_append, List.length_append, List.length_map, List.length_replicate, List.length_replicate, h1, h2]
  have msk : ∀ {σ' : L2.St} {e' : Ev} {H' : Hp} {L' : List En}, σ'.length = e'.length → Fx M (vs.map some ++ List.replicate (n - k) none) σ' → SR g H' (zp σ' e' ++ L') → SR g H' (zp (vs.map some) (maskF M 0 k e') ++ L') := fun {σ' e' H' L'} l fx S' => by
    have lm : (vs.map some : L2.St).length = k := by rw [List.length_map]; exact h1
    have := SR.mask (M := M) (vs.map some) σ' e' 0 L' (fun i hi hlt => by
      have hm : i ∈ M := by simpa using hi
      rw [fx.2 i hm, List.getElem?_append_left hlt]) (by rw [fx.1, List.length_append]; omega) l S'
    rw [lm] at this
    exact this
  have msk1 : ∀ {σ' : L2.St} {e' : Ev} {H' : Hp} {en : En}, σ'.length = e'.length → Fx M (vs.map some ++ List.replicate (n - k) none) σ' → SR g H' (en :: (zp σ' e' ++ L)) → SR g H' (en :: (zp (vs.map some) (maskF M 0 k e') ++ L)) := fun l fx S' => (msk l fx (S'.perm (pm_cons _ _ _))).perm (pm_cons _ _ _).symm
  cases ho : f (as ++ List.replicate (n - k) .no) with
  | none => unfold fnOf at hf; rw [ho] at hf; cases hf
  | some ob =>
    unfold fnOf at hf
    rw [ho] at hf
    cases ob with
    | nx e1 => cases hf; exact hs H _ _ L _ _ hl S1 ho fun σ' H' l fx S' => post .non H' (msk1 l fx (S'.scal fun G => .non))
    | rt e1 s => cases hf; exact hs H _ _ L _ _ hl S1 ho fun v σ' H' l fx S' => post v H' (msk1 l fx S')
    | er e1 x => cases hf; exact hs H _ _ L _ _ hl S1 ho fun σ' l fx d v H' hd S' => post d v H' hd (msk1 l fx S')
    | bk e1 => cases hf
    | ct e1 => cases hf
/-- which arguments are handed over to be changed -/
def pass : List Bool → Ev → List EV → Option (Ev × List SV)
  | [], e, [] => some (e, [])
  | false :: md, e, r :: rs => (frz e r).bind fun q => (pass md q.1 rs).map fun w => (w.1, .fz q.2 :: w.2)
  | true :: md, e, .bo i :: rs => match e[i]? with
    | some (.ow x) => (pass md (e.set i .no) rs).map fun w => (w.1, .ow x :: w.2)
    | _ => none
  | true :: md, e, .vl s :: rs => (pass md e rs).map fun w => (w.1, s :: w.2)
  | _, _, _ => none
def back : List Bool → List EV → Ev → List SV → Ev
  | true :: md, .bo i :: rs, e, a :: as => back md rs (e.set i a) as
  | _ :: md, _ :: rs, e, _ :: as => back md rs e as
  | _, _, e, _ => e
theorem pass_ok {H : Hp} {σ : L2.St} : ∀ {md : List Bool} {rs : List EV} {vs : List V} {e e' : Ev} {as : List SV} {L : List En}, σ.length = e.length → Paired (BoOk σ) vs rs → SR g H (zp (vs.map some) (rs.map EV.sv) ++ (zp σ e ++ L)) → pass md e rs = some (e', as) →
    SR g H (zp (vs.map some) as ++ (zp σ e' ++ L)) ∧ e'.length = e.length ∧ as.length = vs.length
  | [], [], vs, e, e', as, L, hl, bs, S, h => by
    cases bs
    cases (show some (e, []) = some (e', as) from h)
    exact ⟨S, rfl, rfl⟩
  | [], _ :: _, _, _, _, _, _, _, _, _, h => by cases h
  | false :: md, [], _, _, _, _, _, _, _, _, h => by cases h
  | true :: md, [], _, _, _, _, _, _, _, _, h => by cases h
  | false :: md, r :: rs, ws, e, e', as, L, hl, bs, S, h => by
    obtain ⟨v, vs, rfl, hb, bs'⟩ : ∃ v vs, ws = v :: vs ∧ BoOk σ v r ∧ Paired (BoOk σ) vs rs := by
      cases bs with
      | cons a b => exact ⟨_, _, rfl, a, b⟩
    obtain ⟨⟨e1, x⟩, h1, h2⟩ := Option.bind_eq_some_iff.mp (show (frz e r).bind (fun q => (pass md q.1 rs).map fun w => (w.1, .fz q.2 :: w.2)) = some (e', as) from h)
    obtain ⟨⟨e2, bs2⟩, h3, h4⟩ := Option.map_eq_some_iff.mp h2
    cases h4
    have l1 := frz_len h1
    have S1 : SR g H ((some v, r.sv) :: (zp σ e ++ (zp (vs.map some) (rs.map EV.sv) ++ L))) := S.perm ((pm_app _ _ _).cons _)
    have S2 := frz_ok S1 hb h1
    have S3 : SR g H (zp (vs.map some) (rs.map EV.sv) ++ (zp σ e1 ++ (some v, .fz x) :: L)) := S2.perm (((pm_app _ _ _).cons _).trans (pm_cons2 _ _ _ _).symm)
    obtain ⟨S4, l4, l5⟩ := pass_ok (by rw [l1]; exact hl) bs' S3 h3
    exact ⟨S4.perm (pm_cons2 _ _ _ _), l4.trans l1, by rw [List.length_cons, List.length_cons, l5]⟩
  | true :: md, .vl s :: rs, ws, e, e', as, L, hl, bs, S, h => by
    obtain ⟨v, vs, rfl, hb, bs'⟩ : ∃ v vs, ws = v :: vs ∧ BoOk σ v (.vl s) ∧ Paired (BoOk σ) vs rs := by
      cases bs with
      | cons a b => exact ⟨_, _, rfl, a, b⟩
    obtain ⟨⟨e2, bs2⟩, h3, h4⟩ := Option.map_eq_some_iff.mp (show (pass md e rs).map (fun w => (w.1, s :: w.2)) = some (e', as) from h)
    cases h4
    have S3 : SR g H (zp (vs.map some) (rs.map EV.sv) ++ (zp σ e ++ (some v, s) :: L)) := S.perm (pm_cons2 _ _ _ _).symm
    obtain ⟨S4, l4, l5⟩ := pass_ok hl bs' S3 h3
    exact ⟨S4.perm (pm_cons2 _ _ _ _), l4, by rw [List.length_cons, List.length_cons, l5]⟩
  | true :: md, .bo i :: rs, ws, e, e', as, L, hl, bs, S, h => by
    obtain ⟨v, vs, rfl, hb, bs'⟩ : ∃ v vs, ws = v :: vs ∧ BoOk σ v (.bo i) ∧ Paired (BoOk σ) vs rs := by
      cases bs with
      | cons a b => exact ⟨_, _, rfl, a, b⟩
    have hb' : σ[i]? = some (some v) := hb
    unfold pass at h
    split at h
    · rename_i x hx
      obtain ⟨⟨e2, bs2⟩, h3, h4⟩ := Option.map_eq_some_iff.mp h
      cases h4
      have S1 : SR g H ((some v, .no) :: (zp σ e ++ (zp (vs.map some) (rs.map EV.sv) ++ L))) := S.perm ((pm_app _ _ _).cons _)
      obtain ⟨R, p1, p2, _⟩ := SR.slotP (H := H) (L := zp (vs.map some) (rs.map EV.sv) ++ L) hb' hx
      have S2 : SR g H ((some v, .ow x) :: (zp σ (e.set i .no) ++ (zp (vs.map some) (rs.map EV.sv) ++ L))) := (S1.perm (p1.cons _)).swap.perm ((p2 .no).symm.cons _)
      have S3 : SR g H (zp (vs.map some) (rs.map EV.sv) ++ (zp σ (e.set i .no) ++ (some v, .ow x) :: L)) := S2.perm (((pm_app _ _ _).cons _).trans (pm_cons2 _ _ _ _).symm)
      obtain ⟨S4, l4, l5⟩ := pass_ok (by rw [List.length_set]; exact hl) bs' S3 h3
      exact ⟨S4.perm (pm_cons2 _ _ _ _), by rw [l4, List.length_set], by rw [List.length_cons, List.length_cons, l5]⟩
    · cases h
theorem back_ok {H : Hp} {σ : L2.St} : ∀ {md : List Bool} {rs : List EV} {vs : List V} {e : Ev} {as : List SV} {L : List En}, σ.length = e.length → Paired (BoOk σ) vs rs → as.length = vs.length → SR g H (zp (vs.map some) as ++ (zp σ e ++ L)) → SR g H (zp σ (back md rs e as) ++ L) ∧ (back md rs e as).length = e.length
  | [], rs, vs, e, as, L, hl, bs, la, S => by
    have eb : back [] rs e as = e := by unfold back; rfl
    rw [eb]; exact ⟨SR.drop S, rfl⟩
  | b :: md, [], vs, e, as, L, hl, bs, la, S => by
    have eb : back (b :: md) [] e as = e := by cases b <;> unfold back <;> rfl
    rw [eb]; exact ⟨SR.drop S, rfl⟩
  | b :: md, r :: rs, vs, e, [], L, hl, bs, la, S => by
    have eb : back (b :: md) (r :: rs) e [] = e := by cases b <;> cases r <;> unfold back <;> rfl
    rw [eb]; exact ⟨SR.drop S, rfl⟩
  | b :: md, r :: rs, ws, e, a :: as, L, hl, bs, la, S => by
    obtain ⟨v, vs, rfl, hb, bs'⟩ : ∃ v vs, ws = v :: vs ∧ BoOk σ v r ∧ Paired (BoOk σ) vs rs := by
      cases bs with
      | cons a b => exact ⟨_, _, rfl, a, b⟩
    have S0 : SR g H ((some v, a) :: (zp (vs.map some) as ++ (zp σ e ++ L))) := S
    have la' : as.length = vs.length := by simpa using la
    have skip : SR g H (zp σ (back md rs e as) ++ L) ∧ (back md rs e as).length = e.length := back_ok hl bs' la' S0.tail
    cases b with
    | false =>
      have eb : back (false :: md) (r :: rs) e (a :: as) = back md rs e as := by cases r <;> rfl
      rw [eb]; exact skip
    | true =>
      cases r with
      | vl s => exact skip
      | bo i =>
        have hb' : σ[i]? = some (some v) := hb
        have il : i < e.length := by rw [← hl]; exact (List.getElem?_eq_some_iff.mp hb').1
        have hx : e[i]? = some e[i] := List.getElem?_eq_getElem il
        obtain ⟨R, p1, p2, _⟩ := SR.slotP (H := H) (L := zp (vs.map some) as ++ L) hb' hx
        have S1 : SR g H ((some v, a) :: (zp σ e ++ (zp (vs.map some) as ++ L))) := S0.perm ((pm_app _ _ _).cons _)
        have S2 : SR g H (zp σ (e.set i a) ++ (zp (vs.map some) as ++ L)) := (SR.drop1 (S1.perm (p1.cons _))).perm (p2 a).symm
        obtain ⟨S3, l3⟩ := back_ok (md := md) (e := e.set i a) (by rw [List.length_set]; exact hl) bs' la' (S2.perm (pm_app _ _ _))
        exact ⟨S3, by rw [show back (true :: md) (.bo i :: rs) e (a :: as) = back md rs (e.set i a) as from rfl, l3, List.length_set]⟩
def resE (e : Ev) : RS → O EV
  | .ok s => .ok e (.vl s)
  | .er x => .er e x
def fCall (F : PF) (md : List Bool) (dxs : List PV) (fa : FA) : FE := fun e => bnd (fa e) fun e1 rs => (pass md e1 rs).bind fun q => (F (q.2 ++ dxs.map SV.fz)).map fun w => resE (back md rs q.1 w.1) w.2
theorem RpL.all {dvs : List V} {dxs : List PV} (h : ∀ G, RpL g G dvs dxs) {H : Hp} {L : List En} (S : SR g H L) : SR g H (zp (dvs.map some) (dxs.map SV.fz) ++ L) := by
  obtain ⟨A, z⟩ := S
  refine SRA.sr (A := A) ?_
  have h' := h (mns H A)
  clear h
  induction dxs generalizing dvs with
  | nil => cases h'; exact z
  | cons x xs ih =>
    cases h' with
    | cons a b => exact (ih b).push a
theorem call_go {n : Nat} {F : PF} {md : List Bool} {dvs : List V} {dxs : List PV} {H : Hp} {σ : L2.St} {e1 : Ev} {L : List En} {vs : List V} {rs : List EV} {Q : VK} {E : XK} {o : O EV} (hd : ∀ G, RpL g G dvs dxs) (hF : ∀ as w, as.length = n → F as = some w → w.1.length = n)
    (hl : σ.length = e1.length) (bs : Paired (BoOk σ) vs rs) (S : SR g H (zp (vs.map some) (rs.map EV.sv) ++ (zp σ e1 ++ L))) (hn : vs.length + dvs.length = n)
    (hf : ((pass md e1 rs).bind fun q => (F (q.2 ++ dxs.map SV.fz)).map fun w => resE (back md rs q.1 w.1) w.2) = some o) (post : PostE g W σ L Q o) (hE : ∀ e x, o = .er e x → ∀ d H', W (.ref (g.c x.c)) (some d) σ H' → E (.ref (g.c x.c)) (some d) H') : PSp g n F (vs ++ dvs) H Q E := by
  obtain ⟨⟨e2, as⟩, h1, h2⟩ := Option.bind_eq_some_iff.mp hf
  obtain ⟨⟨as', rs'⟩, h3, rfl⟩ := Option.map_eq_some_iff.mp h2
  obtain ⟨S1, l1, l2⟩ := pass_ok hl bs S h1
  have dl : dvs.length = dxs.length := (hd (fun _ => none)).length
  have hz : ∀ (bs' : List SV) (cs : List SV), bs'.length = vs.length → zp ((vs ++ dvs).map some) (bs' ++ cs) = zp (vs.map some) bs' ++ zp (dvs.map some) cs := fun bs' cs h => by
    rw [List.map_append]
    exact List.zip_append (by rw [List.length_map, h])
  have lF := hF _ _ (by rw [List.length_append, List.length_map]; show as.length + dxs.length = n; omega) h3
  dsimp only at lF h3
  have e4 : as' = as'.take vs.length ++ as'.drop vs.length := (List.take_append_drop _ _).symm
  have lt : (as'.take vs.length).length = vs.length := by rw [List.length_take]; omega
  refine ⟨zp σ e2 ++ L, as ++ dxs.map SV.fz, as', rs', by rw [List.length_append]; exact hn, by rw [List.length_append, List.length_map]; omega, by omega, ?_, h3, ?_⟩
  · rw [hz _ _ l2, List.append_assoc]
    exact (RpL.all hd S1).perm (pm_app _ _ _)
  · have bk : ∀ {H' : Hp} {en : En}, SR g H' (en :: (zp ((vs ++ dvs).map some) as' ++ (zp σ e2 ++ L))) → SR g H' (en :: (zp σ (back md rs e2 as') ++ L)) ∧ (back md rs e2 as').length = e2.length := fun {H' en} S' => by
      have S2 : SR g H' (zp (vs.map some) (as'.take vs.length) ++ (zp σ e2 ++ en :: L)) := by
        have S3 : SR g H' (en :: (zp (vs.map some) (as'.take vs.length) ++ (zp σ e2 ++ L))) := by
          rw [e4, hz _ _ lt, List.append_assoc] at S'
          exact SR.dropZ (T := zp (dvs.map some) (as'.drop vs.length)) (S'.perm ((pm_app _ _ _).cons _))
        exact S3.perm (pm_cons2 _ _ _ _).symm
      obtain ⟨a, b⟩ := back_ok (md := md) (by rw [l1]; exact hl) bs lt S2
      have tk : ∀ (md : List Bool) (rs : List EV) (vs : List V) (e : Ev) (as : List SV), Paired (BoOk σ) vs rs → back md rs e (as.take vs.length) = back md rs e as := by
        intro md
        induction md with
        | nil => intro rs vs e as _; unfold back; rfl
        | cons b md ih =>
          intro rs vs e as p
          cases p with
          | nil => cases b <;> unfold back <;> rfl
          | @cons v r vs rs _ p =>
            cases as with
            | nil => rfl
            | cons a as =>
              rw [List.length_cons, List.take_succ_cons]
              cases b with
              | false => cases r <;> exact ih _ _ _ _ p
              | true => cases r <;> exact ih _ _ _ _ p
      rw [tk md rs vs e2 as' bs] at a b
      exact ⟨a.perm (pm_cons _ _ _).symm, b⟩
    cases rs' with
    | ok s =>
      intro v H' S'
      obtain ⟨a, b⟩ := bk S'
      exact post v H' (by rw [b, l1]; exact hl) trivial a
    | er x =>
      intro d v H' hd' S'
      obtain ⟨a, b⟩ := bk S'
      exact hE _ _ rfl d H' (post (by rw [b, l1]; exact hl) d v H' hd' a)
theorem fnOf_len {n k : Nat} {f : FS} : ∀ as w, as.length = k → fnOf M n k f as = some w → w.1.length = k := by
  intro as w _ h
  unfold fnOf at h
  split at h <;> cases h <;> exact maskF_len _ _ _ _
theorem pass_len : ∀ {md : List Bool} {rs : List EV} {e e' : Ev} {as : List SV}, pass md e rs = some (e', as) → md.length = rs.length
  | [], [], _, _, _, _ => rfl
  | [], _ :: _, _, _, _, h => by cases h
  | false :: md, [], _, _, _, h => by cases h
  | true :: md, [], _, _, _, h => by cases h
  | false :: md, r :: rs, e, e', as, h => by
    obtain ⟨q, _, h2⟩ := Option.bind_eq_some_iff.mp (show (frz e r).bind (fun q => (pass md q.1 rs).map fun w => (w.1, .fz q.2 :: w.2)) = some (e', as) from h)
    obtain ⟨w, h3, _⟩ := Option.map_eq_some_iff.mp h2
    rw [List.length_cons, List.length_cons, pass_len h3]
  | true :: md, .vl s :: rs, e, e', as, h => by
    obtain ⟨w, h3, _⟩ := Option.map_eq_some_iff.mp (show (pass md e rs).map (fun w => (w.1, s :: w.2)) = some (e', as) from h)
    rw [List.length_cons, List.length_cons, pass_len h3]
  | true :: md, .bo i :: rs, e, e', as, h => by
    unfold pass at h
    split at h
    · obtain ⟨w, h3, _⟩ := Option.map_eq_some_iff.mp h
      rw [List.length_cons, List.length_cons, pass_len h3]
    · cases h
end
end Sd
namespace Sd
open PySem PySem.Spec PyProof.Rows L2
section
variable {g : Ga} {W : WX} {M : List Nat}
theorem simE_callSD {sp : Sp} {n : Nat} {F : PF} {md : List Bool} {dvs : List V} {dxs : List PV} {E : L2.St → XK} {ta : TA} {fa : FA} (hs : ∀ vs H Q E, PSp g n F vs H Q E → sp vs H Q E) (hF : ∀ as w, as.length = n → F as = some w → w.1.length = n) (hd : ∀ G, RpL g G dvs dxs) (hn : md.length + dxs.length = n)
    (ha : SimA g W ta fa) (hE : ∀ c d σ H, W c d σ H → E σ c d H) : SimE g W (tCallSD sp dvs E ta) (fCall F md dxs fa) := by
  intro H σ e L Q o hl S hf post
  rcases bnd_inv hf with ⟨e1, x, h1, rfl⟩ | ⟨e1, rs, h1, h2⟩
  · exact ha H σ e L _ _ hl S h1 post
  · refine ha H σ e L _ _ hl S h1 fun vs H1 hl1 bs S1 => hs _ _ _ _ (call_go hd hF hl1 bs S1 ?_ h2 post fun e x _ d H' => hE _ _ _ _)
    obtain ⟨q, h3, _⟩ := Option.bind_eq_some_iff.mp h2
    have := pass_len h3
    have := bs.length
    have := (hd fun _ => none).length
    omega
theorem simE_call {sp : Sp} {n : Nat} {F : PF} {md : List Bool} {dvs : List V} {dxs : List PV} {E : XK} {ta : TA} {fa : FA} (hs : ∀ vs H Q E, PSp g n F vs H Q E → sp vs H Q E) (hF : ∀ as w, as.length = n → F as = some w → w.1.length = n) (hd : ∀ G, RpL g G dvs dxs) (hn : md.length + dxs.length = n) (ha : SimA g (wOf E) ta fa) :
    SimE g (wOf E) (tCall sp dvs E ta) (fCall F md dxs fa) := simE_callSD (E := fun _ => E) hs hF hd hn ha fun _ _ _ _ z => z
/-- what is raised is not wished for -/
def noEr {α : Type} : Option (O α) → Option (O α)
  | some (.ok e r) => some (.ok e r)
  | _ => none
def fCall0 (F : PF) (md : List Bool) (dxs : List PV) (fa : FA) : FE := fun e => bnd (fa e) fun e1 rs => noEr ((pass md e1 rs).bind fun q => (F (q.2 ++ dxs.map SV.fz)).map fun w => resE (back md rs q.1 w.1) w.2)
theorem noEr_inv {α : Type} {m : Option (O α)} {o : O α} (h : noEr m = some o) : m = some o ∧ ∀ e x, o ≠ .er e x := by
  unfold noEr at h
  split at h
  · cases h; exact ⟨rfl, fun _ _ z => by cases z⟩
  · cases h
theorem simE_call0 {sp : Sp} {n : Nat} {F : PF} {md : List Bool} {dvs : List V} {dxs : List PV} {E : XK} {ta : TA} {fa : FA} (hs : ∀ vs H Q E, PSp g n F vs H Q E → sp vs H Q E) (hF : ∀ as w, as.length = n → F as = some w → w.1.length = n) (hd : ∀ G, RpL g G dvs dxs) (hn : md.length + dxs.length = n) (ha : SimA g W ta fa) :
    SimE g W (tCall sp dvs E ta) (fCall0 F md dxs fa) := by
  intro H σ e L Q o hl S hf post
  rcases bnd_inv hf with ⟨e1, x, h1, rfl⟩ | ⟨e1, rs, h1, h2⟩
  · exact ha H σ e L _ _ hl S h1 post
  · obtain ⟨h2', ne⟩ := noEr_inv h2
    refine ha H σ e L _ _ hl S h1 fun vs H1 hl1 bs S1 => hs _ _ _ _ (call_go hd hF hl1 bs S1 ?_ h2' post fun e x z => (ne e x z).elim)
    obtain ⟨q, h3, _⟩ := Option.bind_eq_some_iff.mp h2'
    have := pass_len h3
    have := bs.length
    have := (hd fun _ => none).length
    omega
def RecvOk (g : Ga) (C : Addr) (m : Str) (ok : PV → Bool) : Prop := ∀ (A : List Addr) (H : Hp) (v : V) (x : PV), Cn g A H v x → ok x = true → ∃ a dx fs, v = .ref a ∧ H a = some (.ins C dx fs) ∧ fs.lookup m = none
def tMethSD (C : Addr) (m : Str) (sp : Sp) (dvs : List V) (E : L2.St → XK) (ta : TE) (t : TA) : TE := fun σ H Q => ta σ H fun x H1 => ∃ a dx fs, x = .ref a ∧ H1 a = some (.ins C dx fs) ∧ fs.lookup m = none ∧ t σ H1 fun vs H2 => sp (x :: (vs ++ dvs)) H2 Q (E σ)
def recv (ok : PV → Bool) : Option PV → Bool
  | some x => ok x
  | none => false
def fMeth (F : PF) (md : List Bool) (dxs : List PV) (ok : PV → Bool) (fe : FE) (fa : FA) : FE := fun e => bnd (fe e) fun e1 r => if recv ok (cn e1 r) = true then bnd (fa e1) fun e2 rs => (pass md e2 (r :: rs)).bind fun q => (F (q.2 ++ dxs.map SV.fz)).map fun w => resE (back md (r :: rs) q.1 w.1) w.2 else none
theorem meth_core {C : Addr} {m : Str} {sp : Sp} {n : Nat} {F : PF} {md : List Bool} {dvs : List V} {dxs : List PV} {E : L2.St → XK} {te : TE} {fe : FE} {ta : TA} {fa : FA} {ok : PV → Bool} (hs : ∀ vs H Q E, PSp g n F vs H Q E → sp vs H Q E) (hF : ∀ as w, as.length = n → F as = some w → w.1.length = n) (hd : ∀ G, RpL g G dvs dxs) (hn : md.length + dxs.length = n) (hr : RecvOk g C m ok)
    (he : SimE g W te fe) (ha : SimA g W ta fa) {H : Hp} {σ : L2.St} {e : Ev} {L : List En} {Q : VK} {o : O EV} (hl : σ.length = e.length) (S : SR g H (zp σ e ++ L))
    (hf : bnd (fe e) (fun e1 r => if recv ok (cn e1 r) = true then bnd (fa e1) fun e2 rs => (pass md e2 (r :: rs)).bind fun q => (F (q.2 ++ dxs.map SV.fz)).map fun w => resE (back md (r :: rs) q.1 w.1) w.2 else none) = some o)
    (hE : ∀ e1 r e2 rs, fe e = some (.ok e1 r) → fa e1 = some (.ok e2 rs) → ∀ e x, o = .er e x → ∀ d H', W (.ref (g.c x.c)) (some d) σ H' → E σ (.ref (g.c x.c)) (some d) H') (post : PostE g W σ L Q o) : tMethSD C m sp dvs E te ta σ H Q := by
  rcases bnd_inv hf with ⟨e1, x, h1, rfl⟩ | ⟨e1, r, h1, h2⟩
  · exact he H σ e L _ _ hl S h1 post
  · refine he H σ e L _ _ hl S h1 fun v H1 hl1 b1 S1 => ?_
    split at h2
    · rename_i hrv
      have hcn : ∃ x, cn e1 r = some x ∧ ok x = true := by
        cases q : cn e1 r with
        | none => rw [q] at hrv; cases hrv
        | some x => rw [q] at hrv; exact ⟨x, rfl, hrv⟩
      obtain ⟨x, hx, hok⟩ := hcn
      have S2 := S1
      obtain ⟨A, z⟩ := S1
      obtain ⟨a, dx, fs, rfl, k1, k2⟩ := hr A H1 v x (z.cn (σ := σ) (e := e1) (fun en h => List.mem_cons_of_mem _ (List.mem_append_left _ h)) List.mem_cons_self b1 hx) hok
      refine ⟨a, dx, fs, rfl, k1, k2, ?_⟩
      rcases bnd_inv h2 with ⟨e2, x, h3, rfl⟩ | ⟨e2, rs, h3, h4⟩
      · exact ha H1 σ e1 ((some (.ref a), r.sv) :: L) _ _ hl1 (S2.perm (pm_cons _ _ _)) h3 fun hl2 => (post hl2).more1
      · refine ha H1 σ e1 ((some (.ref a), r.sv) :: L) _ _ hl1 (S2.perm (pm_cons _ _ _)) h3 fun vs H2 hl2 bs S3 => hs _ _ _ _ ?_
        have S4 : SR g H2 (zp ((V.ref a :: vs).map some) ((r :: rs).map EV.sv) ++ (zp σ e2 ++ L)) := S3.perm (pm_cons2 _ _ _ _)
        refine call_go (vs := V.ref a :: vs) (rs := r :: rs) hd hF hl2 (.cons b1 bs) S4 ?_ h4 post (hE e1 r e2 rs h1 h3)
        obtain ⟨q, h5, _⟩ := Option.bind_eq_some_iff.mp h4
        have h6 := pass_len h5
        have h7 := bs.length
        have h8 := (hd fun _ => none).length
        rw [List.length_cons] at h6 ⊢
        omega
    · cases h2
theorem simE_methSD {C : Addr} {m : Str} {sp : Sp} {n : Nat} {F : PF} {md : List Bool} {dvs : List V} {dxs : List PV} {E : L2.St → XK} {te : TE} {fe : FE} {ta : TA} {fa : FA} {ok : PV → Bool} (hs : ∀ vs H Q E, PSp g n F vs H Q E → sp vs H Q E) (hF : ∀ as w, as.length = n → F as = some w → w.1.length = n) (hd : ∀ G, RpL g G dvs dxs) (hn : md.length + dxs.length = n) (hr : RecvOk g C m ok)
    (he : SimE g W te fe) (ha : SimA g W ta fa) (hE : ∀ c d σ H, W c d σ H → E σ c d H) : SimE g W (tMethSD C m sp dvs E te ta) (fMeth F md dxs ok fe fa) := fun H σ e L Q o hl S hf post => meth_core hs hF hd hn hr he ha hl S hf (fun _ _ _ _ _ _ e x _ d H' => hE _ _ _ _) post
theorem simE_meth {C : Addr} {m : Str} {sp : Sp} {n : Nat} {F : PF} {md : List Bool} {dvs : List V} {dxs : List PV} {E : XK} {te : TE} {fe : FE} {ta : TA} {fa : FA} {ok : PV → Bool} (hs : ∀ vs H Q E, PSp g n F vs H Q E → sp vs H Q E) (hF : ∀ as w, as.length = n → F as = some w → w.1.length = n) (hd : ∀ G, RpL g G dvs dxs) (hn : md.length + dxs.length = n) (hr : RecvOk g C m ok)
    (he : SimE g (wOf E) te fe) (ha : SimA g (wOf E) ta fa) : SimE g (wOf E) (tMeth C m sp dvs E te ta) (fMeth F md dxs ok fe fa) := simE_methSD (E := fun _ => E) hs hF hd hn hr he ha fun _ _ _ _ z => z
def spMk (C : Addr) (sp : Sp) (dvs : List V) : Sp := fun vs H Q E => ∀ x dx, H x = none → H dx = none → dx ≠ x → sp (.ref x :: (vs ++ dvs)) (upd (upd H dx (.own x)) x (.ins C dx [])) (fun v H2 => v = .non ∧ Q (.ref x) H2) E
theorem RpL.none (G : Hp) : RpL g G [] [] := .nil
theorem simE_mk {C : Addr} {sp : Sp} {n : Nat} {F : PF} {md : List Bool} {dvs : List V} {E : XK} {ta : TA} {fa : FA} (hs : ∀ vs H Q E, PSp g n F vs H Q E → spMk C sp dvs vs H Q E) (hF : ∀ as w, as.length = n → F as = some w → w.1.length = n) (hn : md.length = n) (ha : SimA g (wOf E) ta fa) :
    SimE g (wOf E) (tMake C sp dvs E ta) (fCall F md [] fa) := by
  have h := simE_call (sp := spMk C sp dvs) (dvs := []) (dxs := []) hs hF RpL.none (by rw [hn]; rfl) ha
  intro H σ e L Q o hl S hf post
  have := h H σ e L Q o hl S hf post
  unfold tCall at this
  simp only [List.append_nil] at this
  exact this
theorem SRA.fixedM {A : List Addr} {H : Hp} {L : List En} (z : SRA g A H L) : ∀ {us : List V} {xs : List PV}, us.length = xs.length → (∀ en ∈ zp (us.map some) (xs.map SV.fz), en ∈ L) → RpL g (mns H A) us xs
  | [], [], _, _ => .nil
  | [], _ :: _, h, _ => by cases h
  | _ :: _, [], h, _ => by cases h
  | u :: us, x :: xs, h, m => .cons (z.sl.mem_fz (m _ List.mem_cons_self)) (SRA.fixedM z (by simpa using h) fun en k => m en (List.mem_cons_of_mem _ k))
def MutOk (g : Ga) (r : V → List V → Hp → VK → Prop) (p : List PV → List PV → Option (List PV × SV)) : Prop := ∀ (A : List Addr) (H : Hp) (a : Addr) (L : List En) (ys : List PV) (vs us : List V) (xs ys' : List PV) (s : SV) (Q : VK),
  SRA g A H ((some (.ref a), .ow (.lst ys)) :: L) → H a = some (.lst vs) → RpL g (mns H A) vs ys → RpL g (mns H A) us xs → p ys xs = some (ys', s) →
  (∀ u vs', SR g (upd H a (.lst vs')) ((some u, s) :: (some (.ref a), .ow (.lst ys')) :: L) → Q u (upd H a (.lst vs'))) → r (.ref a) us H Q
def ownLst : Option SV → Option (List PV)
  | some (.ow (.lst ys)) => some ys
  | _ => none
theorem ownLst_inv {o : Option SV} {ys : List PV} (h : ownLst o = some ys) : o = some (.ow (.lst ys)) := by
  unfold ownLst at h
  split at h
  · cases h; rfl
  · cases h
def fMut (p : List PV → List PV → Option (List PV × SV)) (i : Nat) (fa : FA) : FE := fun e => (ownLst e[i]?).bind fun _ => bnd (fa e) fun e1 rs => (frzs e1 rs).bind fun q => (ownLst q.1[i]?).bind fun ys => (p ys q.2).map fun w => .ok (q.1.set i (.ow (.lst w.1))) (.vl w.2)
theorem simE_mut {r : V → List V → Hp → VK → Prop} {p : List PV → List PV → Option (List PV × SV)} {i : Nat} {ta : TA} {fa : FA} (hr : MutOk g r p) (ha : SimA g W ta fa) : SimE g W (tBM g.K "list" r (tVar i) ta) (fMut p i fa) := by
  intro H σ e L Q o hl S hf post
  obtain ⟨y0, h0, hf2⟩ := Option.bind_eq_some_iff.mp hf
  have h0' := ownLst_inv h0
  obtain ⟨ov, ho⟩ := slot_at hl h0'
  have S0 := S
  obtain ⟨A0, z0⟩ := S
  have m0 := List.mem_append_left L (zip_mem ho h0')
  obtain n | ⟨v, rfl⟩ := z0.sl.mem_some m0
  · cases n
  obtain ⟨P, ow, _⟩ := z0.sl.mem_ow m0
  obtain ⟨a, vs0, rfl, _, k1, _⟩ := ow
  refine ⟨.ref a, ho, .inl ⟨rfl, _, SqL.of k1⟩, ?_⟩
  rcases bnd_inv hf2 with ⟨e1, x, h1, rfl⟩ | ⟨e1, rs, h1, h2⟩
  · exact ha H σ e L _ _ hl S0 h1 post
  · refine ha H σ e L _ _ hl S0 h1 fun us H1 hl1 bs S1 => ?_
    obtain ⟨⟨e2, xs⟩, hq, h3⟩ := Option.bind_eq_some_iff.mp h2
    obtain ⟨ys, hy, h4⟩ := Option.bind_eq_some_iff.mp h3
    obtain ⟨⟨ys', s⟩, hp, rfl⟩ := Option.map_eq_some_iff.mp h4
    dsimp only at hy hp
    have hy' := ownLst_inv hy
    have S2 := frzs_ok bs S1 hq
    obtain ⟨l1, l2⟩ := frzs_len hq
    have hv : us.length = xs.length := by rw [bs.length]; exact l2.symm
    obtain ⟨R, p1, p2, _⟩ := SR.slotP (H := H1) (L := zp (us.map some) (xs.map SV.fz) ++ L) ho hy'
    have S3 : SR g H1 ((some (.ref a), .ow (.lst ys)) :: R) := (S2.perm (pm_app _ _ _)).perm p1
    obtain ⟨A, z⟩ := S3
    obtain ⟨a', vs, ea, _, k2, k3⟩ := z.ownL
    cases ea
    have mem : ∀ en ∈ zp (us.map some) (xs.map SV.fz), en ∈ (some (V.ref a), SV.ow (.lst ys)) :: R := fun en h => p1.mem_iff.mp (List.mem_append_right _ (List.mem_append_left _ h))
    have rl : RpL g (mns H1 A) us xs := z.fixedM hv mem
    refine hr A H1 a R ys vs us xs ys' s Q z k2 k3 rl hp fun u vs' S4 => ?_
    refine post u _ (by rw [List.length_set, l1]; exact hl1) trivial ?_
    have S5 : SR g (upd H1 a (.lst vs')) ((some u, s) :: (zp σ (e2.set i (.ow (.lst ys'))) ++ (zp (us.map some) (xs.map SV.fz) ++ L))) := S4.perm ((p2 _).symm.cons _)
    exact SR.dropZ (T := zp (us.map some) (xs.map SV.fz)) (S5.perm ((pm_app _ _ _).cons _))
end
end Sd
namespace Sd
open PySem PySem.Spec PyProof.Rows L2
def wipeE (e : Ev) : List Nat → Ev
  | [] => e
  | v :: vs => (wipeE e vs).set v .no
def rest (e0 : Ev) : List Nat → Ev → Ev
  | [], e => e
  | v :: vs, e => rest e0 vs (e.set v (e0.getD v .no))
def saved (σ : L2.St) (e : Ev) (vs : List Nat) : List En := vs.map fun v => ((σ[v]?).join, e.getD v .no)
theorem wipeE_len (e : Ev) : ∀ vs : List Nat, (wipeE e vs).length = e.length
  | [] => rfl
  | v :: vs => by unfold wipeE; rw [List.length_set, wipeE_len e vs]
theorem wipeE_out {e : Ev} {i : Nat} : ∀ {vs : List Nat}, i ∉ vs → (wipeE e vs)[i]? = e[i]?
  | [], _ => rfl
  | v :: vs, h => by
    unfold wipeE
    rw [List.getElem?_set_ne fun z => h (by rw [z]; exact List.mem_cons_self)]
    exact wipeE_out fun z => h (List.mem_cons_of_mem _ z)
theorem rest_len (e0 : Ev) : ∀ (vs : List Nat) (e : Ev), (rest e0 vs e).length = e.length
  | [], _ => rfl
  | v :: vs, e => by unfold rest; rw [rest_len e0 vs, List.length_set]
section
variable {g : Ga} {W : WX} {M : List Nat} {H : Hp} {σ : L2.St}
theorem slot_eq {σ : L2.St} {i : Nat} {ov : Option V} (h : σ[i]? = some ov) : (σ[i]?).join = ov := by rw [h]; rfl
theorem getD_eq {e : Ev} {i : Nat} {s : SV} (h : e[i]? = some s) : e.getD i .no = s := by rw [List.getD_eq_getElem?_getD, h]; rfl
theorem SR.wipe {e : Ev} {L : List En} (hl : σ.length = e.length) : ∀ (vs : List Nat), vs.Nodup → (∀ v ∈ vs, v < e.length) → SR g H (zp σ e ++ L) → SR g H (zp (L2.wipe σ vs) (wipeE e vs) ++ (saved σ e vs ++ L))
  | [], _, _, S => S
  | v :: vs, nd, hb, S => by
    obtain ⟨n1, n2⟩ := List.nodup_cons.mp nd
    have ih := SR.wipe hl vs n2 (fun u hu => hb u (List.mem_cons_of_mem _ hu)) S
    have hv := hb v List.mem_cons_self
    have h2 : e[v]? = some e[v] := List.getElem?_eq_getElem hv
    obtain ⟨ov, h1⟩ := slot_at hl h2
    have h1' : (L2.wipe σ vs)[v]? = some ov := by rw [wipe_out n1]; exact h1
    have h2' : (wipeE e vs)[v]? = some e[v] := by rw [wipeE_out n1]; exact h2
    obtain ⟨R, p1, _, p3⟩ := SR.slotP (H := H) (L := saved σ e vs ++ L) h1' h2'
    have S1 : SR g H ((ov, e[v]) :: (none, .no) :: R) := (SR.pushNo (ih.perm p1)).swap
    have S2 : SR g H ((ov, e[v]) :: (zp (L2.wipe σ (v :: vs)) (wipeE e (v :: vs)) ++ (saved σ e vs ++ L))) := S1.perm ((p3 none .no).symm.cons _)
    have es : saved σ e (v :: vs) = (ov, e[v]) :: saved σ e vs := by
      unfold saved
      rw [List.map_cons, slot_eq h1, getD_eq h2]
    rw [es]
    exact S2.perm (pm_cons _ _ _)
theorem SR.unwipe {e : Ev} {L : List En} (hl : σ.length = e.length) : ∀ (vs : List Nat) (e' : Ev), vs.Nodup → (∀ v ∈ vs, v < e.length) → e'.length = e.length → SR g H (zp (L2.wipe σ vs) e' ++ (saved σ e vs ++ L)) → SR g H (zp σ (rest e vs e') ++ L)
  | [], _, _, _, _, S => S
  | v :: vs, e', nd, hb, hl', S => by
    obtain ⟨n1, n2⟩ := List.nodup_cons.mp nd
    have hv := hb v List.mem_cons_self
    have h2 : e[v]? = some e[v] := List.getElem?_eq_getElem hv
    obtain ⟨ov, h1⟩ := slot_at hl h2
    have h1' : (L2.wipe σ vs)[v]? = some ov := by rw [wipe_out n1]; exact h1
    have es : saved σ e (v :: vs) = (ov, e[v]) :: saved σ e vs := by
      unfold saved
      rw [List.map_cons, slot_eq h1, getD_eq h2]
    rw [es] at S
    have vl : v < (L2.wipe σ vs).length := by rw [wipe_length, hl]; exact hv
    have k1 : (L2.wipe σ (v :: vs))[v]? = some none := by
      show ((L2.wipe σ vs).set v none)[v]? = _
      rw [List.getElem?_set_self vl]
    have k2 : e'[v]? = some (e'[v]'(by omega)) := List.getElem?_eq_getElem _
    obtain ⟨R, p1, _, p3⟩ := SR.slotP (H := H) (L := saved σ e vs ++ L) k1 k2
    have S1 : SR g H ((ov, e[v]) :: R) := SR.drop1 ((S.perm (pm_cons _ _ _).symm).perm (p1.cons _))
    have back : ((L2.wipe σ (v :: vs)).set v ov) = L2.wipe σ vs := by
      show (((L2.wipe σ vs).set v none).set v ov) = _
      rw [List.set_set]
      have : (L2.wipe σ vs)[v] = ov := by
        have := List.getElem?_eq_getElem vl
        rw [h1'] at this
        exact (Option.some.inj this).symm
      rw [← this]
      exact List.set_getElem_self vl
    have S2 := S1.perm (p3 ov e[v]).symm
    rw [back] at S2
    unfold rest
    rw [getD_eq h2]
    exact SR.unwipe hl vs _ n2 (fun u hu => hb u (List.mem_cons_of_mem _ hu)) (by rw [List.length_set]; exact hl') S2
theorem wipe_same : ∀ {vs : List Nat} {σ σ' : L2.St}, σ'.length = σ.length → (∀ i, i < σ.length → i ∉ vs → σ'[i]? = σ[i]?) → L2.wipe σ' vs = L2.wipe σ vs := by
  intro vs σ σ' hl h
  have get : ∀ (vs : List Nat) (σ : L2.St) (i : Nat), (L2.wipe σ vs)[i]? = if i < σ.length then (if i ∈ vs then some none else σ[i]?) else none := by
    intro vs
    induction vs with
    | nil =>
      intro σ i
      show σ[i]? = _
      by_cases hi : i < σ.length
      · simp [hi]
      · simp [hi, List.getElem?_eq_none (by omega : σ.length ≤ i)]
    | cons v vs ih =>
      intro σ i
      show ((L2.wipe σ vs).set v none)[i]? = _
      rw [List.getElem?_set]
      by_cases hv : v = i
      · subst hv
        by_cases hi : v < σ.length <;> simp [hi, wipe_length]
      · rw [if_neg hv, ih]
        have : (i ∈ v :: vs) = (i ∈ vs) := by simp [Ne.symm hv]
        simp only [this]
  refine List.ext_getElem? fun i => ?_
  rw [get, get, hl]
  by_cases hi : i < σ.length
  · rw [if_pos hi, if_pos hi]
    by_cases hm : i ∈ vs
    · rw [if_pos hm, if_pos hm]
    · rw [if_neg hm, if_neg hm]; exact h i hi hm
  · rw [if_neg hi, if_neg hi]
def lcLoop (fg : FG) (ft : FT) (fe : FE) (vs : List Nat) : List PV → Ev → List PV → Option (Ev × List PV)
  | [], e, acc => some (e, acc)
  | x :: xs, e, acc => (fg (.vl (.fz x)) e).bind fun e1 => match ft e1 with
    | some (.ok e2 true) => (match fe e2 with
      | some (.ok e3 r) => (frz e3 r).bind fun q => if acc.length < sizeLine then lcLoop fg ft fe vs xs (wipeE q.1 vs) (acc ++ [q.2]) else none
      | _ => none)
    | some (.ok e2 false) => lcLoop fg ft fe vs xs (wipeE e2 vs) acc
    | _ => none
def fLc (n : Nat) (fi : FI) (fg : FG) (ft : FT) (fe : FE) (vs : List Nat) : FE := fun e => bnd (fi e) fun e1 xs => if e1.length = n then (lcLoop fg ft fe vs xs (wipeE e1 vs) []).map fun q => .ok (rest e1 vs q.1) (.vl (.ow (.lst q.2))) else none
theorem lc_core {n : Nat} {M' : List Nat} {W' : WX} {tg : TG} {tt : TT} {te : TE} {vs : List Nat} {fg : FG} {ft : FT} {fe : FE} (nd : vs.Nodup) (hb : ∀ v ∈ vs, v < n) (hM : ∀ i, i < n → i ∈ vs ∨ i ∈ M')
    (hg : SimG g M' tg fg) (ht : SimT g W' tt ft) (he : SimE g W' te fe) {J : It} {ens : List En} {H1 : Hp} {σ : L2.St} {e1 ef : Ev} {xs af : List PV} {L : List En} {Q : VK} (hl1 : σ.length = e1.length) (hn : e1.length = n) (R : ItR g J ens xs) (S1 : SR g H1 (ens ++ (zp σ e1 ++ L))) (h3 : lcLoop fg ft fe vs xs (wipeE e1 vs) [] = some (ef, af))
    (post : ∀ D H', σ.length = (rest e1 vs ef).length → SR g H' (ens ++ (some (.ref D), .ow (.lst af)) :: (zp σ (rest e1 vs ef) ++ L)) → Q (.ref D) H') : tLc (fun _ _ R => R J H1) tg tt te vs σ H1 Q := by
  intro D hD
  have hbe : ∀ v ∈ vs, v < e1.length := fun v hv => by rw [hn]; exact hb v hv
  have hσ : σ.length = n := by rw [hl1, hn]
  have wl := wipe_length σ vs
  -- the ambient
  generalize hamb : (ens ++ (saved σ e1 vs ++ L) : List En) = amb
  have Sw : SR g H1 (zp (L2.wipe σ vs) (wipeE e1 vs) ++ amb) := by
    have := SR.wipe hl1 vs nd hbe (S1.perm (pm_app _ _ _))
    rw [← hamb]
    exact this.perm ((pm_app _ _ _).append_left _)
  have S0 : SR g (upd H1 D (.lst [])) ((some (.ref D), .ow (.lst [])) :: (zp (L2.wipe σ vs) (wipeE e1 vs) ++ amb)) := by
    obtain ⟨A, z⟩ := Sw
    exact (z.newL hD .nil).sr
  refine ⟨fun i m H' => m = xs.length - i ∧ i ≤ xs.length ∧ ∃ e' acc, e'.length = n ∧ SR g H' ((some (.ref D), .ow (.lst acc)) :: (zp (L2.wipe σ vs) e' ++ amb)) ∧ lcLoop fg ft fe vs (xs.drop i) e' acc = some (ef, af), ⟨xs.length, by simp, Nat.zero_le _, wipeE e1 vs, [], by rw [wipeE_len]; exact hn, S0, h3⟩, ?_⟩
  rintro i m H' ⟨rfl, il, e', acc, le', S', hw⟩
  have Sen : SR g H' (ens ++ ((some (.ref D), .ow (.lst acc)) :: (zp (L2.wipe σ vs) e' ++ (saved σ e1 vs ++ L)))) := by
    rw [← hamb] at S'
    exact S'.perm (((pm_app _ _ _).cons _).trans (pm_cons _ _ _))
  by_cases hlt : i < xs.length
  · have hd : xs.drop i = xs[i] :: xs.drop (i + 1) := List.drop_eq_getElem_cons hlt
    rw [hd] at hw
    obtain ⟨e2, h4, h5⟩ := Option.bind_eq_some_iff.mp (show (fg (.vl (.fz xs[i])) e').bind (fun e1 => match ft e1 with
      | some (.ok e2 true) => (match fe e2 with
        | some (.ok e3 r) => (frz e3 r).bind fun q => if acc.length < sizeLine then lcLoop fg ft fe vs (xs.drop (i + 1)) (wipeE q.1 vs) (acc ++ [q.2]) else none
        | _ => none)
      | some (.ok e2 false) => lcLoop fg ft fe vs (xs.drop (i + 1)) (wipeE e2 vs) acc
      | _ => none) = some (ef, af) from hw)
    refine .inr ⟨R.go i H' _ Sen hlt, fun H'' => ∃ e' acc, e'.length = n ∧ SR g H'' ((some (.ref D), .ow (.lst acc)) :: (zp (L2.wipe σ vs) e' ++ amb)) ∧ lcLoop fg ft fe vs (xs.drop (i + 1)) e' acc = some (ef, af), fun H'' z => ⟨xs.length - (i + 1), by omega, rfl, hlt, z⟩, fun u H2 hy => ?_⟩
    have S2 := R.yl i H' _ u H2 xs[i] Sen (List.getElem?_eq_getElem hlt) hy
    have S3 : SR g H2 ((some u, .fz xs[i]) :: (zp (L2.wipe σ vs) e' ++ ((some (.ref D), .ow (.lst acc)) :: amb))) := by
      refine S2.perm (List.Perm.cons _ ?_)
      rw [← hamb]
      exact (((pm_cons _ _ _).symm).trans ((pm_app _ _ _).cons _)).trans (pm_cons _ _ _)
    refine hg H2 (L2.wipe σ vs) e' ((some (.ref D), .ow (.lst acc)) :: amb) u (.vl (.fz xs[i])) _ e2 (by rw [wl, hσ, le']) trivial S3 h4 fun σ2 H3 hl2 fx S4 => ?_
    have weq : L2.wipe σ2 vs = L2.wipe σ vs := by
      have w0 : L2.wipe (L2.wipe σ vs) vs = L2.wipe σ vs := wipe_same wl fun j hj hm => wipe_out hm
      rw [← w0]
      refine wipe_same fx.1 fun j hj hm => fx.2 j ?_
      rcases hM j (by rw [wl, hσ] at hj; exact hj) with z | z
      · exact (hm z).elim
      · exact z
    have l2n : σ2.length = n := by rw [fx.1, wl, hσ]
    have reset : ∀ {H4 : Hp} {e4 : Ev} {acc4 : List PV}, σ2.length = e4.length → SR g H4 (zp σ2 e4 ++ ((some (.ref D), .ow (.lst acc4)) :: amb)) → (wipeE e4 vs).length = n ∧ SR g H4 ((some (.ref D), .ow (.lst acc4)) :: (zp (L2.wipe σ vs) (wipeE e4 vs) ++ amb)) := fun {H4 e4 acc4} hl4 S5 => by
      have le4 : e4.length = n := by rw [← hl4, l2n]
      have S6 := SR.wipe hl4 vs nd (fun v hv => by rw [le4]; exact hb v hv) S5
      rw [weq] at S6
      refine ⟨by rw [wipeE_len]; exact le4, ?_⟩
      exact (SR.drop (L1 := saved σ2 e4 vs) (S6.perm (pm_app _ _ _))).perm (pm_cons _ _ _).symm
    refine ⟨weq, ?_⟩
    cases hte : ft e2 with
    | none => rw [hte] at h5; cases h5
    | some ot =>
      rw [hte] at h5
      cases ot with
      | er _ _ => cases h5
      | ok e3 b =>
        refine ht H3 σ2 e2 _ _ _ hl2 S4 hte fun H4 hl3 S5 => ?_
        cases b with
        | false =>
          rw [if_neg Bool.false_ne_true]
          obtain ⟨q1, q2⟩ := reset hl3 S5
          exact ⟨_, _, q1, q2, h5⟩
        | true =>
          rw [if_pos rfl]
          dsimp only at h5
          cases hee : fe e3 with
          | none => rw [hee] at h5; cases h5
          | some oe =>
            rw [hee] at h5
            cases oe with
            | er _ _ => cases h5
            | ok e4 r =>
              refine he H4 σ2 e3 _ _ _ hl3 S5 hee fun y H5 hl4 b4 S6 => ?_
              obtain ⟨⟨e5, py⟩, h6, h7⟩ := Option.bind_eq_some_iff.mp h5
              have S7 := frz_ok S6 b4 h6
              have l5 := frz_len h6
              dsimp only at h7
              split at h7
              · rename_i hz
                have S8 : SR g H5 ((some (.ref D), .ow (.lst acc)) :: (some y, .fz py) :: (zp σ2 e5 ++ amb)) := S7.perm ((((pm_cons _ _ _).symm).cons _).trans (List.Perm.swap _ _ _))
                obtain ⟨A, z⟩ := S8
                obtain ⟨D', av, ed, _, k2, k3⟩ := z.ownL
                cases ed
                refine ⟨av, k2, by rw [k3.length]; exact hz, ?_⟩
                have S9 := (z.write (k3.append (.cons (z.sl.mem_fz (List.mem_cons_of_mem _ List.mem_cons_self)) .nil))).sr
                obtain ⟨q1, q2⟩ := reset (e4 := e5) (by rw [l5]; exact hl4) ((SR.drop1 S9).perm (pm_cons _ _ _))
                exact ⟨_, _, q1, q2, h7⟩
              · cases h7
  · have e : i = xs.length := by omega
    subst e
    rw [List.drop_length] at hw
    cases hw
    refine .inl ⟨R.st H' _ Sen, ?_⟩
    refine post D H' (by rw [rest_len, le', hσ]) ?_
    have S9 : SR g H' (zp (L2.wipe σ vs) ef ++ (saved σ e1 vs ++ (ens ++ (some (.ref D), .ow (.lst af)) :: L))) :=
      Sen.perm ((((pm_cons _ _ _).trans ((pm_cons _ _ _).append_left _)).append_left _).trans ((pm_app _ _ _).trans ((pm_app _ _ _).append_left _)))
    have := SR.unwipe hl1 vs ef nd hbe (by rw [le', hn]) S9
    exact this.perm ((pm_app _ _ _).trans ((pm_cons _ _ _).symm.append_left _))
theorem simE_lc {n : Nat} {M' : List Nat} {W' : WX} {wi : TI} {tg : TG} {tt : TT} {te : TE} {vs : List Nat} {fi : FI} {fg : FG} {ft : FT} {fe : FE} (nd : vs.Nodup) (hb : ∀ v ∈ vs, v < n) (hM : ∀ i, i < n → i ∈ vs ∨ i ∈ M')
    (hi : SimI g W wi fi) (hg : SimG g M' tg fg) (ht : SimT g W' tt ft) (he : SimE g W' te fe) : SimE g W (tLc wi tg tt te vs) (fLc n fi fg ft fe vs) := by
  intro H σ e L Q o hl S hf post
  rcases bnd_inv hf with ⟨e1, x, h1, rfl⟩ | ⟨e1, xs, h1, h2⟩
  · exact hi H σ e L _ _ hl S h1 post
  · refine hi H σ e L _ _ hl S h1 fun J ens H1 hl1 R S1 => ?_
    split at h2
    · rename_i hn
      obtain ⟨⟨ef, af⟩, h3, rfl⟩ := Option.map_eq_some_iff.mp h2
      exact lc_core nd hb hM hg ht he hl1 hn R S1 h3 fun D H' hl' S' => post (.ref D) H' hl' trivial (SR.drop (L1 := ens) S')
    · cases h2
theorem itr_own {a : Addr} {xs : List PV} : ItR1 g (Itl g.K a) (some (.ref a), .ow (.lst xs)) xs where
  go := fun i H L S hi => by
    obtain ⟨A, z⟩ := S
    obtain ⟨a', av, ea, _, k2, k3⟩ := z.ownL
    cases ea
    have hl := k3.length
    exact ⟨_, _, SqL.of k2, List.getElem?_eq_getElem (by omega)⟩
  yl := fun i H L u H' x S hx y => by
    obtain ⟨rfl, hy⟩ := y
    obtain ⟨A, z⟩ := S
    obtain ⟨a', av, ea, _, k2, k3⟩ := z.ownL
    cases ea
    obtain ⟨v, hv, r⟩ := k3.get hx
    have e := hy _ (SqL.of k2)
    rw [hv] at e; cases e
    exact (z.push r).sr
  st := fun i H L S hi => by
    obtain ⟨A, z⟩ := S
    obtain ⟨a', av, ea, _, k2, k3⟩ := z.ownL
    cases ea
    have hl := k3.length
    exact ⟨_, SqL.of k2, by omega⟩
theorem set_same {σ : L2.St} {i : Nat} {x : Option V} (h : σ[i]? = some x) : σ.set i x = σ := by
  refine List.ext_getElem? fun j => ?_
  by_cases e : i = j
  · subst e
    rw [List.getElem?_set_self (List.getElem?_eq_some_iff.mp h).1, h]
  · rw [List.getElem?_set_ne e]
def fLcO (i : Nat) (n : Nat) (fg : FG) (ft : FT) (fe : FE) (vs : List Nat) : FE := fun e => match e[i]? with
  | some (.ow (.lst xs)) => if e.length = n then (lcLoop fg ft fe vs xs (wipeE (e.set i .no) vs) []).map fun q => .ok ((rest (e.set i .no) vs q.1).set i (.ow (.lst xs))) (.vl (.ow (.lst q.2))) else none
  | _ => fLc n (fiSeq (fVar i)) fg ft fe vs e
theorem simE_lcO {i n : Nat} {M' : List Nat} {W' : WX} {tg : TG} {tt : TT} {te : TE} {vs : List Nat} {fg : FG} {ft : FT} {fe : FE} (nd : vs.Nodup) (hb : ∀ v ∈ vs, v < n) (hM : ∀ i, i < n → i ∈ vs ∨ i ∈ M')
    (hg : SimG g M' tg fg) (ht : SimT g W' tt ft) (he : SimE g W' te fe) : SimE g W (tLc (iSeq2 g.K g.w (tVar i)) tg tt te vs) (fLcO i n fg ft fe vs) := by
  intro H σ e L Q o hl S hf post
  unfold fLcO at hf
  split at hf
  · rename_i xs hx
    split at hf
    · rename_i hn
      obtain ⟨⟨ef, af⟩, h3, rfl⟩ := Option.map_eq_some_iff.mp hf
      obtain ⟨ov, ho⟩ := slot_at hl hx
      have S0 := S
      obtain ⟨A0, z0⟩ := S0
      have m0 := List.mem_append_left L (zip_mem ho hx)
      obtain nn | ⟨v, rfl⟩ := z0.sl.mem_some m0
      · cases nn
      obtain ⟨P, ow, _⟩ := z0.sl.mem_ow m0
      obtain ⟨a, vs0, rfl, _, k1, _⟩ := ow
      have il : i < e.length := (List.getElem?_eq_some_iff.mp hx).1
      have S1 : SR g H ((some (.ref a), .ow (.lst xs)) :: (zp σ (e.set i .no) ++ L)) := by
        obtain ⟨R, p1, p2, _⟩ := SR.slotP (H := H) (L := L) ho hx
        exact ((S.perm p1).pushNo (ov := some (.ref a))).swap.perm ((p2 .no).symm.cons _)
      refine .inl (.inl ⟨_, ho, a, rfl, ⟨_, SqL.of k1⟩, ?_⟩)
      refine lc_core (L := L) nd hb hM hg ht he (by rw [List.length_set]; exact hl) (by rw [List.length_set]; exact hn) itr_own.up S1 h3 fun D H' hl' S' => ?_
      refine post (.ref D) H' (by rw [List.length_set]; exact hl') trivial ?_
      have S2 : SR g H' ((some (.ref a), .ow (.lst xs)) :: (zp σ (rest (e.set i .no) vs ef) ++ ((some (.ref D), .ow (.lst af)) :: L))) := S'.perm ((pm_cons _ _ _).cons _)
      have S3 := SR.store (i := i) hl' (by rw [← hl', hl]; exact il) S2
      rw [set_same ho] at S3
      exact S3.perm (pm_cons _ _ _).symm
    · cases hf
  · exact simE_lc nd hb hM (simI_seq (simE_var i)) hg ht he H σ e L Q o hl S hf post
end
end Sd
namespace Sd
open PySem PySem.Spec PyProof.Rows L2
theorem OpR.or {X : Cx} {f : Value → Value → Sem Value} {r1 r2 : R2} (h1 : OpR X f r1) (h2 : OpR X f r2) : OpR X f (fun x y H Q => r1 x y H Q ∨ r2 x y H Q) := fun pins s σ H x y v u Q I rx ry h => h.elim (h1 pins s σ H x y v u Q I rx ry) (h2 pins s σ H x y v u Q I rx ry)
theorem CallR.or {X : Cx} {f : Value} {r1 r2 : List V → Hp → VK → Prop} (h1 : CallR X f r1) (h2 : CallR X f r2) : CallR X f (fun x H Q => r1 x H Q ∨ r2 x H Q) := fun pins s σ H x v Q I rx h => h.elim (h1 pins s σ H x v Q I rx) (h2 pins s σ H x v Q I rx)
section
variable {g : Ga} {A : List Addr} {H : Hp} {L : List En} {v w : V} {Q : VK}
theorem cnInt {i : Int} (h : Cn g A H v (.int i)) : v = .int i := by cases (show Rp g (mns H A) v (.int i) from h); rfl
theorem cnStr {z : Str} (h : Cn g A H v (.str z)) : v = .str z := by cases (show Rp g (mns H A) v (.str z) from h); rfl
theorem cnBl {z : Bool} (h : Cn g A H v (.bl z)) : v = .bl z := by cases (show Rp g (mns H A) v (.bl z) from h); rfl
theorem cnNon (h : Cn g A H v .non) : v = .non := by cases (show Rp g (mns H A) v .non from h); rfl
theorem cnTup {xs : List PV} (h : Cn g A H v (.tup xs)) : ∃ a vs, v = .ref a ∧ SqT g.K H a vs ∧ RpL g (mns H A) vs xs := by
  cases (show Rp g (mns H A) v (.tup xs) from h) with
  | tup a b => exact ⟨_, _, rfl, Same.tup mns_le a, b⟩
theorem cnTup' {xs : List PV} (h : Cn g A H v (.tup xs)) : ∃ a vs, v = .ref a ∧ SqT g.K H a vs ∧ RpL g (mns H A) vs xs ∧ Rp g (mns H A) (.ref a) (.tup xs) := by
  have h' : Rp g (mns H A) v (.tup xs) := h
  cases h' with
  | tup a b => exact ⟨_, _, rfl, Same.tup mns_le a, b, .tup a b⟩
theorem cnScr {ns : List Int} (h : Cn g A H v (.scr ns)) : ∃ a, v = .ref a ∧ SqL g.K H a (ns.map V.int) := by
  cases (show Rp g (mns H A) v (.scr ns) from h) with
  | scr a => exact ⟨_, rfl, mns_le.seq a⟩
theorem SRA.scal {x : PV} (z : SRA g A H L) (r : ∀ G, Rp g G v x) : SR g H ((some v, .fz x) :: L) := (z.push (r _)).sr
end
def pAdd : PV → PV → Option SV
  | .int i, .int j => some (.fz (.int (i + j)))
  | .str a, .str b => if a.length + b.length ≤ sizeLine then some (.fz (.str (a ++ b))) else none
  | .lst xs, .lst ys => if xs.length + ys.length ≤ sizeLine then some (.ow (.lst (xs ++ ys))) else none
  | .tup xs, .tup ys => if xs.length + ys.length ≤ sizeLine then some (.fz (.tup (xs ++ ys))) else none
  | _, _ => none
def rAddX (K : PySem.W.Frag) : R2 := fun x y H Q => rAdd x y H Q ∨ rAddS x y H Q ∨ rCat x y H Q ∨ rCatA K x y H Q
theorem o_addX {X : Cx} : OpR X (binaryOp .Add) (rAddX X.K) := OpR.or o_add (OpR.or o_adds (OpR.or o_cat o_catA))
theorem op_addX {g : Ga} : Op2Ok g (rAddX g.K) pAdd := by
  intro A H L v w x y s Q z cx cy hp q
  unfold pAdd at hp
  split at hp
  · cases hp
    cases cnInt cx; cases cnInt cy
    exact .inl ⟨_, _, rfl, rfl, q _ _ (z.scal fun G => .int _)⟩
  · split at hp
    · cases hp
      cases cnStr cx; cases cnStr cy
      exact .inr (.inl ⟨_, _, rfl, rfl, by assumption, q _ _ (z.scal fun G => .str _)⟩)
    · cases hp
  · split at hp
    · cases hp
      rename_i hl
      obtain ⟨a, vs, rfl, a1, a2⟩ := cx
      obtain ⟨b, ws, rfl, b1, b2⟩ := cy
      exact .inr (.inr (.inl ⟨a, b, vs, ws, rfl, rfl, a1, b1, by rw [a2.length, b2.length]; exact hl, fun p hp => q _ _ (z.newL hp (a2.append b2)).sr⟩))
    · cases hp
  · split at hp
    · cases hp
      rename_i hl
      obtain ⟨a, vs, rfl, a1, a2, a3⟩ := cnTup' cx
      obtain ⟨b, ws, rfl, b1, b2, b3⟩ := cnTup' cy
      refine .inr (.inr (.inr ⟨a, b, vs, ws, rfl, rfl, a1, b1, by rw [a2.length, b2.length]; exact hl, fun e => ?_, fun _ e => ?_, fun _ _ p hp => q _ _ (z.newT hp (a2.append b2)).sr⟩))
      · subst e
        cases a2
        exact q _ _ (z.push b3).sr
      · subst e
        cases b2
        rw [List.append_nil] at q
        exact q _ _ (z.push a3).sr
    · cases hp
  · cases hp
def pI (p : Int → Int → Option SV) : PV → PV → Option SV
  | .int i, .int j => p i j
  | _, _ => none
theorem pI_inv {p : Int → Int → Option SV} {x y : PV} {s : SV} (h : pI p x y = some s) : ∃ i j, x = .int i ∧ y = .int j ∧ p i j = some s := by
  unfold pI at h
  split at h
  · exact ⟨_, _, rfl, rfl, h⟩
  · cases h
def pSub : PV → PV → Option SV := pI fun i j => some (.fz (.int (i - j)))
def pDiv : PV → PV → Option SV := pI fun i j => if 0 < j ∧ j.natAbs.log2 < 9000 then some (.fz (.int (i / j))) else none
def pMod : PV → PV → Option SV := pI fun i j => if 0 < j then some (.fz (.int (i % j))) else none
def pPow : PV → PV → Option SV := pI fun i j => if 0 ≤ j ∧ j ≤ 1000000 ∧ i.natAbs < 2 ^ 64 then some (.fz (.int (i ^ j.toNat))) else none
theorem op_sub {g : Ga} : Op2Ok g rSub pSub := by
  intro A H L v w x y s Q z cx cy hp q
  obtain ⟨i, j, rfl, rfl, h⟩ := pI_inv hp
  cases cnInt cx; cases cnInt cy; cases h
  exact ⟨i, j, rfl, rfl, q _ _ (z.scal fun G => .int _)⟩
theorem op_div {g : Ga} : Op2Ok g rDiv pDiv := by
  intro A H L v w x y s Q z cx cy hp q
  obtain ⟨i, j, rfl, rfl, h⟩ := pI_inv hp
  cases cnInt cx; cases cnInt cy
  split at h
  · cases h
    exact ⟨i, j, rfl, rfl, by assumption, q _ _ (z.scal fun G => .int _)⟩
  · cases h
theorem op_mod {g : Ga} : Op2Ok g rMod pMod := by
  intro A H L v w x y s Q z cx cy hp q
  obtain ⟨i, j, rfl, rfl, h⟩ := pI_inv hp
  cases cnInt cx; cases cnInt cy
  split at h
  · cases h
    exact ⟨i, j, rfl, rfl, by assumption, q _ _ (z.scal fun G => .int _)⟩
  · cases h
theorem op_pow {g : Ga} : Op2Ok g rPow pPow := by
  intro A H L v w x y s Q z cx cy hp q
  obtain ⟨i, j, rfl, rfl, h⟩ := pI_inv hp
  cases cnInt cx; cases cnInt cy
  split at h
  · cases h
    exact ⟨i, j, rfl, rfl, by assumption, q _ _ (z.scal fun G => .int _)⟩
  · cases h
def pMul : PV → PV → Option SV
  | .int i, .int j => if (-(2 ^ 64) < i ∧ i < 2 ^ 64) ∨ (-(2 ^ 64) < j ∧ j < 2 ^ 64) then some (.fz (.int (i * j))) else none
  | .lst xs, .int k => if -(2 ^ 63) ≤ k ∧ k < 2 ^ 63 ∧ xs.length * k.toNat ≤ sizeLine then some (.ow (.lst (List.replicate k.toNat xs).flatten)) else none
  | .tup xs, .int k => if 1 ≤ k ∧ k ≤ 100000 ∧ xs.length * k.toNat ≤ 100000 then some (.fz (.tup (List.replicate k.toNat xs).flatten)) else none
  | _, _ => none
def rMulX (K : PySem.W.Frag) : R2 := fun x y H Q => rMul x y H Q ∨ rRep x y H Q ∨ rRepA K x y H Q
theorem o_mulX {X : Cx} : OpR X (binaryOp .Mult) (rMulX X.K) := OpR.or o_mul (OpR.or op_rep o_repA)
theorem RpL.rep {g : Ga} {H : Hp} {vs : List V} {xs : List PV} (h : RpL g H vs xs) : ∀ n : Nat, RpL g H (List.replicate n vs).flatten (List.replicate n xs).flatten
  | 0 => .nil
  | n + 1 => by rw [List.replicate_succ, List.replicate_succ, List.flatten_cons, List.flatten_cons]; exact h.append (RpL.rep h n)
theorem op_mulX {g : Ga} : Op2Ok g (rMulX g.K) pMul := by
  intro A H L v w x y s Q z cx cy hp q
  unfold pMul at hp
  split at hp
  · split at hp
    · cases hp
      cases cnInt cx; cases cnInt cy
      exact .inl ⟨_, _, rfl, rfl, by assumption, q _ _ (z.scal fun G => .int _)⟩
    · cases hp
  · split at hp
    · cases hp
      rename_i hl
      obtain ⟨a, vs, rfl, a1, a2⟩ := cx
      cases cnInt cy
      exact .inr (.inl ⟨a, _, vs, rfl, rfl, a1, hl.1, hl.2.1, by rw [a2.length]; exact hl.2.2, fun p hp => q _ _ (z.newL hp (a2.rep _)).sr⟩)
    · cases hp
  · split at hp
    · cases hp
      rename_i xs k hl
      obtain ⟨a, vs, rfl, a1, a2, a3⟩ := cnTup' cx
      cases cnInt cy
      refine .inr (.inr ⟨a, _, vs, rfl, rfl, a1, hl.1, hl.2.1, by rw [a2.length]; exact hl.2.2, fun e => ?_, fun _ _ p hp => q _ _ (z.newT hp (a2.rep _)).sr⟩)
      have e2 : (List.replicate k.toNat xs).flatten = xs := by
        rcases e with e | e
        · subst e; simp
        · subst e; cases a2; simp
      rw [e2] at q
      exact q _ _ (z.push a3).sr
    · cases hp
  · cases hp
def pNeg : PV → Option SV
  | .int i => some (.fz (.int (-i)))
  | _ => none
theorem op_neg {g : Ga} : Op1Ok g rNeg pNeg := by
  intro A H L v x s Q z cx hp q
  unfold pNeg at hp
  split at hp
  · cases hp
    cases cnInt cx
    exact ⟨_, rfl, q _ _ (z.scal fun G => .int _)⟩
  · cases hp
def pCmp (p : Int → Int → Bool) : PV → PV → Option SV := pI fun i j => some (.fz (.bl (p i j)))
theorem op_cmp {g : Ga} {r : R2} {p : Int → Int → Bool} (hr : CmpI r p) : Op2Ok g r (pCmp p) := by
  intro A H L v w x y s Q z cx cy hp q
  obtain ⟨i, j, rfl, rfl, h⟩ := pI_inv hp
  cases cnInt cx; cases cnInt cy; cases h
  rw [hr]
  exact ⟨i, j, rfl, rfl, q _ _ (z.scal fun G => .bl _)⟩
/-- comparisons are told by the choice of classical logic: nothing reckons with them by itself -/
@[irreducible] noncomputable def bLt (i j : Int) : Bool := @decide (i < j) (Classical.propDecidable _)
@[irreducible] noncomputable def bLe (i j : Int) : Bool := @decide (i ≤ j) (Classical.propDecidable _)
@[irreducible] noncomputable def bGt (i j : Int) : Bool := @decide (j < i) (Classical.propDecidable _)
@[irreducible] noncomputable def bGe (i j : Int) : Bool := @decide (j ≤ i) (Classical.propDecidable _)
theorem bLt_d (i j : Int) : bLt i j = decide (i < j) := by unfold bLt; congr
theorem bLe_d (i j : Int) : bLe i j = decide (i ≤ j) := by unfold bLe; congr
theorem bGt_d (i j : Int) : bGt i j = decide (j < i) := by unfold bGt; congr
theorem bGe_d (i j : Int) : bGe i j = decide (j ≤ i) := by unfold bGe; congr
theorem cLt : CmpI rLt bLt := by have e : bLt = fun i j => decide (i < j) := funext fun i => funext fun j => bLt_d i j
                                 rw [e]; rfl
theorem cLe : CmpI rLe bLe := by have e : bLe = fun i j => decide (i ≤ j) := funext fun i => funext fun j => bLe_d i j
                                 rw [e]; rfl
theorem cGt : CmpI rGt bGt := by have e : bGt = fun i j => decide (j < i) := funext fun i => funext fun j => bGt_d i j
                                 rw [e]; rfl
theorem cGe : CmpI rGe bGe := by have e : bGe = fun i j => decide (j ≤ i) := funext fun i => funext fun j => bGe_d i j
                                 rw [e]; rfl
mutual
def toD : PV → Option PyData
  | .non => some .none
  | .bl b => some (.bool b)
  | .int i => some (.int i)
  | .str z => some (.str z)
  | .tup xs => (toDs xs).map .tuple
  | .lst xs => (toDs xs).map .list
  | _ => none
def toDs : List PV → Option (List PyData)
  | [] => some []
  | x :: xs => (toD x).bind fun d => (toDs xs).map fun ds => d :: ds
end
section
variable {g : Ga} {H : Hp}
mutual
theorem dp_of : ∀ (x : PV) {v : V} {d : PyData}, Rp g H v x → toD x = some d → Dp g.K H v d
  | .non, _, _, h, e => by cases h; unfold toD at e; cases e; exact .non
  | .bl b, _, _, h, e => by cases h; unfold toD at e; cases e; exact .bl b
  | .int i, _, _, h, e => by cases h; unfold toD at e; cases e; exact .int i
  | .str i, _, _, h, e => by cases h; unfold toD at e; cases e; exact .str i
  | .tup xs, _, _, h, e => by
    cases h with
    | tup a b =>
      unfold toD at e
      obtain ⟨ds, h1, rfl⟩ := Option.map_eq_some_iff.mp e
      exact .tup a (dps_of xs b h1)
  | .lst xs, _, _, h, e => by
    cases h with
    | lst a b =>
      unfold toD at e
      obtain ⟨ds, h1, rfl⟩ := Option.map_eq_some_iff.mp e
      exact .lst (SqL.of a) (dps_of xs b h1)
  | .dct _, _, _, h, e => by unfold toD at e; cases e
  | .scr _, _, _, h, e => by unfold toD at e; cases e
  | .ty _, _, _, h, e => by unfold toD at e; cases e
  | .cl _, _, _, h, e => by unfold toD at e; cases e
  | .ins _ _, _, _, h, e => by unfold toD at e; cases e
  | .exn _ _ _ _, _, _, h, e => by unfold toD at e; cases e
  | .tset _, _, _, h, e => by unfold toD at e; cases e
  | .iset _, _, _, h, e => by unfold toD at e; cases e
  | .map _, _, _, h, e => by unfold toD at e; cases e
  | .omap _, _, _, h, e => by unfold toD at e; cases e
  | .grd _ _ _, _, _, h, e => by unfold toD at e; cases e
  | .nset _, _, _, h, e => by unfold toD at e; cases e
  | .mapO _ _ _, _, _, h, e => by unfold toD at e; cases e
theorem dps_of : ∀ (xs : List PV) {vs : List V} {ds : List PyData}, RpL g H vs xs → toDs xs = some ds → DpAll g.K H vs ds
  | [], _, _, h, e => by cases h; unfold toDs at e; cases e; exact .nil
  | x :: xs, _, _, h, e => by
    cases h with
    | cons a b =>
      unfold toDs at e
      obtain ⟨d, h1, h2⟩ := Option.bind_eq_some_iff.mp e
      obtain ⟨ds, h3, rfl⟩ := Option.map_eq_some_iff.mp h2
      exact .cons (dp_of x a h1) (dps_of xs b h3)
end
theorem cn_dp {A : List Addr} {v : V} {x : PV} {d : PyData} (h : Cn g A H v x) (e : toD x = some d) : Dp g.K H v d := by
  cases x with
  | lst xs =>
    obtain ⟨a, vs, rfl, a1, a2⟩ := h
    unfold toD at e
    obtain ⟨ds, h1, rfl⟩ := Option.map_eq_some_iff.mp e
    exact .lst (SqL.of a1) (dps_of xs (a2.mono mns_le) h1)
  | ins c fs => unfold toD at e; cases e
  | tset c => unfold toD at e; cases e
  | map _ => unfold toD at e; cases e
  | omap _ => unfold toD at e; cases e
  | grd _ _ _ => unfold toD at e; cases e
  | nset _ => unfold toD at e; cases e
  | _ => exact dp_of _ (Rp.mono mns_le _ h) e
end
mutual
def eqP : PV → PV → Bool
  | .non, .non => true
  | .bl a, .bl b => a == b
  | .bl a, .int j => (if a then 1 else 0) == j
  | .int i, .bl b => i == (if b then 1 else 0)
  | .int i, .int j => i == j
  | .str x, .str y => x == y
  | .lst xs, .lst ys => eqPs xs ys
  | .tup xs, .tup ys => eqPs xs ys
  | .dct [], .dct [] => true
  | .dct [(.str a, x)], .dct [(.str b, y)] => a == b && eqP x y
  | _, _ => false
def eqPs : List PV → List PV → Bool
  | [], [] => true
  | x :: xs, y :: ys => eqP x y && eqPs xs ys
  | _, _ => false
end
mutual
theorem eqP_D : ∀ (x y : PV) {d e : PyData}, toD x = some d → toD y = some e → PyData.eqv d e = eqP x y := by
  intro x y d e h1 h2
  cases x with
  | tup xs =>
    unfold toD at h1
    obtain ⟨ds, a1, rfl⟩ := Option.map_eq_some_iff.mp h1
    cases y with
    | tup ys =>
      unfold toD at h2
      obtain ⟨es, b1, rfl⟩ := Option.map_eq_some_iff.mp h2
      simp only [PyData.eqv, eqP]
      exact eqPs_D xs ys a1 b1
    | lst ys => unfold toD at h2; obtain ⟨es, b1, rfl⟩ := Option.map_eq_some_iff.mp h2; simp only [PyData.eqv, eqP]
    | _ => unfold toD at h2; cases h2 <;> simp only [PyData.eqv, eqP]
  | lst xs =>
    unfold toD at h1
    obtain ⟨ds, a1, rfl⟩ := Option.map_eq_some_iff.mp h1
    cases y with
    | lst ys =>
      unfold toD at h2
      obtain ⟨es, b1, rfl⟩ := Option.map_eq_some_iff.mp h2
      simp only [PyData.eqv, eqP]
      exact eqPs_D xs ys a1 b1
    | tup ys => unfold toD at h2; obtain ⟨es, b1, rfl⟩ := Option.map_eq_some_iff.mp h2; simp only [PyData.eqv, eqP]
    | _ => unfold toD at h2; cases h2 <;> simp only [PyData.eqv, eqP]
  | _ =>
    unfold toD at h1
    cases h1
    all_goals
      cases y with
      | tup ys => unfold toD at h2; obtain ⟨es, b1, rfl⟩ := Option.map_eq_some_iff.mp h2; simp only [PyData.eqv, eqP]
      | lst ys => unfold toD at h2; obtain ⟨es, b1, rfl⟩ := Option.map_eq_some_iff.mp h2; simp only [PyData.eqv, eqP]
      | _ => unfold toD at h2; cases h2 <;> simp only [PyData.eqv, eqP]
theorem eqPs_D : ∀ (xs ys : List PV) {ds es : List PyData}, toDs xs = some ds → toDs ys = some es → PyData.eqvAll ds es = eqPs xs ys
  | [], [], _, _, h1, h2 => by unfold toDs at h1 h2; cases h1; cases h2; simp only [PyData.eqvAll, eqPs]
  | [], y :: ys, _, _, h1, h2 => by
    unfold toDs at h1 h2; cases h1
    obtain ⟨d, _, h3⟩ := Option.bind_eq_some_iff.mp h2
    obtain ⟨ds, _, rfl⟩ := Option.map_eq_some_iff.mp h3
    simp only [PyData.eqvAll, eqPs]
  | x :: xs, [], _, _, h1, h2 => by
    unfold toDs at h1 h2; cases h2
    obtain ⟨d, _, h3⟩ := Option.bind_eq_some_iff.mp h1
    obtain ⟨ds, _, rfl⟩ := Option.map_eq_some_iff.mp h3
    simp only [PyData.eqvAll, eqPs]
  | x :: xs, y :: ys, _, _, h1, h2 => by
    unfold toDs at h1 h2
    obtain ⟨d, a1, h3⟩ := Option.bind_eq_some_iff.mp h1
    obtain ⟨ds, a2, rfl⟩ := Option.map_eq_some_iff.mp h3
    obtain ⟨e, b1, h4⟩ := Option.bind_eq_some_iff.mp h2
    obtain ⟨es, b2, rfl⟩ := Option.map_eq_some_iff.mp h4
    simp only [PyData.eqvAll, eqPs]
    rw [eqP_D x y a1 b1, eqPs_D xs ys a2 b2]
end
end Sd
namespace Sd
open PySem PySem.Spec PyProof.Rows L2
def scalV : V → Bool
  | .non => true
  | .bl _ => true
  | .int _ => true
  | .str _ => true
  | _ => false
mutual
inductive Rf (K : PySem.W.Frag) (H : Hp) : Nat → V → V → Prop
  | scal {n : Nat} {v : V} : scalV v = true → Rf K H n v v
  | lst {n : Nat} {a b : Addr} {xs ys : List V} : SqL K H a xs → SqL K H b ys → RfL K H n xs ys → Rf K H (n + 1) (.ref a) (.ref b)
  | tup {n : Nat} {a b : Addr} {xs ys : List V} : SqT K H a xs → SqT K H b ys → RfL K H n xs ys → Rf K H (n + 1) (.ref a) (.ref b)
  | d0 {n : Nat} {a b : Addr} : H a = some (.dK []) → H b = some (.dK []) → Rf K H (n + 1) (.ref a) (.ref b)
inductive RfL (K : PySem.W.Frag) (H : Hp) : Nat → List V → List V → Prop
  | nil {n : Nat} : RfL K H n [] []
  | cons {n : Nat} {v w : V} {vs ws : List V} : Rf K H n v w → RfL K H n vs ws → RfL K H n (v :: vs) (w :: ws)
end
theorem RfL.get {K : PySem.W.Frag} {H : Hp} {n : Nat} : ∀ {vs ws : List V}, RfL K H n vs ws → vs.length = ws.length ∧ ∀ (i : Nat) (v w : V), vs[i]? = some v → ws[i]? = some w → Rf K H n v w
  | _, _, .nil => ⟨rfl, fun i v w h _ => by simp at h⟩
  | _, _, .cons a b => by
    obtain ⟨h1, h2⟩ := RfL.get b
    refine ⟨by simp [h1], fun i v w q1 q2 => ?_⟩
    cases i with
    | zero => simp at q1 q2; subst q1 q2; exact a
    | succ i => exact h2 i v w (by simpa using q1) (by simpa using q2)
section
variable {X : Cx} {pins : List (Addr × Obj)} {σ : L2.St} {H : Hp} {s : Shared}
theorem dict0 (I : Inv X pins σ H s) {a : Addr} (h : H a = some (.dK [])) : (a == sysModules) = false ∧ ∀ (prog : Program) (w : World), s.heap.DictOf (mixKind prog w) a [] := by
  obtain ⟨_, ya, va, ra, da⟩ := (show ObjOk X.prog X.w H s.heap a (.dK []) from I.hok a _ h)
  refine ⟨ya, fun prog w => ?_⟩
  cases ra
  obtain ⟨o, es, ep, h1, h2, h3, h4, h5, h6⟩ := da
  have e0 : es = #[] := by
    have : es.toList = [] := by
      cases he : es.toList with
      | nil => rfl
      | cons x l => rw [he] at h5; cases h5
    exact Array.toList_inj.mp (by simpa using this)
  subst e0
  exact ⟨o, #[], ep, h1, h2, h3, fun e he => by simp at he, by simpa using PySem.Pairs.nil, by simp⟩
theorem rf_eq (I : Inv X pins σ H s) : ∀ (n : Nat) {v w : V} {v' w' : Value}, Rf X.K H n v w → RelV v v' → RelV w w' → ∀ A : Around, A.units + n < cLine → SeqAt.EqAt A s v' w' true
  | n, _, _, _, _, .scal (v := v) h, r1, r2, A, hu => by
    cases v with
    | non => cases r1; cases r2; exact .same _
    | bl b => cases r1; cases r2; exact .same _
    | int i =>
      obtain ⟨t, rfl⟩ := (show ∃ t, _ = Value.int i t from r1)
      obtain ⟨u, rfl⟩ := (show ∃ t, _ = Value.int i t from r2)
      have := SeqAt.EqAt.int_int (A := A) (s := s) i t i u
      simpa using this
    | str z =>
      obtain ⟨t, rfl⟩ := (show ∃ t, _ = Value.str z t from r1)
      obtain ⟨u, rfl⟩ := (show ∃ t, _ = Value.str z t from r2)
      have := SeqAt.EqAt.str_str (A := A) (s := s) z t z u
      simpa using this
    | _ => cases h
  | n + 1, _, _, _, _, .lst (a := a) (b := b) (xs := xs) (ys := ys) ha hb hl, r1, r2, A, hu => by
    cases r1; cases r2
    by_cases e : a = b
    · subst e; exact .same _
    · obtain ⟨its, v1, p1, _⟩ := I.list ha
      obtain ⟨its2, v2, p2, _⟩ := I.list hb
      obtain ⟨hln, hat⟩ := hl.get
      have l1 := v1.length
      have l2 := v2.length
      have he : ∀ j (h1 : j < its.toArray.size) (h2 : j < its2.toArray.size), SeqAt.EqAt A.in1 s its.toArray[j] its2.toArray[j] true := fun j h1 h2 => by
        have j1 : j < xs.length := by rw [l1]; simpa using h1
        have j2 : j < ys.length := by rw [l2]; simpa using h2
        obtain ⟨u1, q1, t1⟩ := v1.get (List.getElem?_eq_getElem j1)
        obtain ⟨u2, q2, t2⟩ := v2.get (List.getElem?_eq_getElem j2)
        have g1 : its.toArray[j] = u1 := by
          have := (List.getElem?_eq_some_iff.mp q1).2
          simpa using this
        have g2 : its2.toArray[j] = u2 := by
          have := (List.getElem?_eq_some_iff.mp q2).2
          simpa using this
        rw [g1, g2]
        exact rf_eq I n (hat j _ _ (List.getElem?_eq_getElem j1) (List.getElem?_eq_getElem j2)) t1 t2 A.in1 (by have : A.in1.units = A.units + 1 := rfl; omega)
      have := SeqAt.RcAt.lists (A := A) (e := fun _ => true) p1.isList p2.isList (by simp; omega) (by omega) he
      refine .of_refs e ?_
      have ea : (List.range its.toArray.size).all (fun _ => true) = true := by rw [List.all_eq_true]; intro _ _; rfl
      rw [ea] at this
      exact this
  | n + 1, _, _, _, _, .tup (a := a) (b := b) (xs := xs) (ys := ys) ha hb hl, r1, r2, A, hu => by
    cases r1; cases r2
    by_cases e : a = b
    · subst e; exact .same _
    · obtain ⟨its, v1, p1, _⟩ := I.tuple ha
      obtain ⟨its2, v2, p2, _⟩ := I.tuple hb
      obtain ⟨hln, hat⟩ := hl.get
      have l1 := v1.length
      have l2 := v2.length
      have he : ∀ j (h1 : j < its.toArray.size) (h2 : j < its2.toArray.size), SeqAt.EqAt A.in1 s its.toArray[j] its2.toArray[j] true := fun j h1 h2 => by
        have j1 : j < xs.length := by rw [l1]; simpa using h1
        have j2 : j < ys.length := by rw [l2]; simpa using h2
        obtain ⟨u1, q1, t1⟩ := v1.get (List.getElem?_eq_getElem j1)
        obtain ⟨u2, q2, t2⟩ := v2.get (List.getElem?_eq_getElem j2)
        have g1 : its.toArray[j] = u1 := by
          have := (List.getElem?_eq_some_iff.mp q1).2
          simpa using this
        have g2 : its2.toArray[j] = u2 := by
          have := (List.getElem?_eq_some_iff.mp q2).2
          simpa using this
        rw [g1, g2]
        exact rf_eq I n (hat j _ _ (List.getElem?_eq_getElem j1) (List.getElem?_eq_getElem j2)) t1 t2 A.in1 (by have : A.in1.units = A.units + 1 := rfl; omega)
      have := SeqAt.RcAt.tuples (A := A) (e := fun _ => true) p1 p2 (by omega) he
      refine .of_refs e ?_
      have hs : its.toArray.size = its2.toArray.size := by simp; omega
      have ea : ((List.range (min its.toArray.size its2.toArray.size)).all (fun _ => true) && its.toArray.size == its2.toArray.size) = true := by
        rw [hs]
        have : (List.range (min its2.toArray.size its2.toArray.size)).all (fun _ => true) = true := by rw [List.all_eq_true]; intro _ _; rfl
        rw [this]; simp
      rw [ea] at this
      exact this
  | n + 1, _, _, _, _, .d0 (a := a) (b := b) ha hb, r1, r2, A, hu => by
    cases r1; cases r2
    by_cases e : a = b
    · subst e; exact .same _
    · obtain ⟨y1, d1⟩ := dict0 I ha
      obtain ⟨y2, d2⟩ := dict0 I hb
      refine .of_refs e fun prog w E Q h => ?_
      exact PySem.W.keq_eq (knd := mixKind prog w) (ka := []) (kb := []) (r := true) y1 y2 (d1 prog w) (d2 prog w) (by omega) (fun _ => .nil) (by simpa using h)
theorem rf_items (I : Inv X pins σ H s) {n : Nat} {xs ys : List V} {its its2 : List Value} (v1 : Vals xs its) (v2 : Vals ys its2) (hl : RfL X.K H n xs ys) (A : Around) (hu : A.units + n + 1 < cLine) : its.length = its2.length ∧ ∀ j (h1 : j < its.toArray.size) (h2 : j < its2.toArray.size), SeqAt.EqAt A.in1 s its.toArray[j] its2.toArray[j] true := by
  obtain ⟨hln, hat⟩ := hl.get
  have l1 := v1.length
  have l2 := v2.length
  refine ⟨by omega, fun j h1 h2 => ?_⟩
  have j1 : j < xs.length := by rw [l1]; simpa using h1
  have j2 : j < ys.length := by rw [l2]; simpa using h2
  obtain ⟨u1, q1, t1⟩ := v1.get (List.getElem?_eq_getElem j1)
  obtain ⟨u2, q2, t2⟩ := v2.get (List.getElem?_eq_getElem j2)
  have g1 : its.toArray[j] = u1 := by
    have := (List.getElem?_eq_some_iff.mp q1).2
    simpa using this
  have g2 : its2.toArray[j] = u2 := by
    have := (List.getElem?_eq_some_iff.mp q2).2
    simpa using this
  rw [g1, g2]
  exact rf_eq I n (hat j _ _ (List.getElem?_eq_getElem j1) (List.getElem?_eq_getElem j2)) t1 t2 A.in1 (by have : A.in1.units = A.units + 1 := rfl; omega)
/-- == and != of a thing and a copy of it -/
def rEqR (K : PySem.W.Frag) : R2 := fun x y H Q => ∃ n a b xs ys, n ≤ 60 ∧ x = .ref a ∧ y = .ref b ∧ (SqL K H a xs ∧ SqL K H b ys ∨ SqT K H a xs ∧ SqT K H b ys) ∧ RfL K H n xs ys ∧ Q (.bl true) H
def rNeR (K : PySem.W.Frag) : R2 := fun x y H Q => ∃ n a b xs ys, n ≤ 60 ∧ x = .ref a ∧ y = .ref b ∧ (SqL K H a xs ∧ SqL K H b ys ∨ SqT K H a xs ∧ SqT K H b ys) ∧ RfL K H n xs ys ∧ Q (.bl false) H
theorem all_t (n : Nat) : (List.range n).all (fun _ => true) = true := by rw [List.all_eq_true]; intro _ _; rfl
theorem o_eqR {k : Nat} (hr : Room k X.A) : OpR X (compareOp .Eq) (rEqR X.K) := by
  intro pins s σ H x y v u Q I rx ry h
  obtain ⟨n, a, b, xs, ys, hn, rfl, rfl, hs, rf, q⟩ := h
  have h65 := room65 hr
  cases rx; cases ry
  have fin : EP X pins σ Q (.bool true) s := ⟨.bl true, H, I, rfl, q⟩
  rcases hs with ⟨ha, hb⟩ | ⟨ha, hb⟩
  · obtain ⟨its, v1, p1, _⟩ := I.list ha
    obtain ⟨its2, v2, p2, _⟩ := I.list hb
    obtain ⟨hl, he⟩ := rf_items I v1 v2 rf X.A (by omega)
    have := SeqAt.RcAt.lists (A := X.A) (e := fun _ => true) p1.isList p2.isList (by simpa using hl) (by omega) he X.prog X.w X.xe (EP X pins σ Q)
    rw [all_t] at this
    exact this fin
  · obtain ⟨its, v1, p1, _⟩ := I.tuple ha
    obtain ⟨its2, v2, p2, _⟩ := I.tuple hb
    obtain ⟨hl, he⟩ := rf_items I v1 v2 rf X.A (by omega)
    have := SeqAt.RcAt.tuples (A := X.A) (e := fun _ => true) p1 p2 (by omega) he X.prog X.w X.xe (EP X pins σ Q)
    rw [all_t, show (its.toArray.size == its2.toArray.size) = true by simp [hl]] at this
    exact this fin
theorem o_neR {k : Nat} (hr : Room k X.A) : OpR X (compareOp .NotEq) (rNeR X.K) := by
  intro pins s σ H x y v u Q I rx ry h
  obtain ⟨n, a, b, xs, ys, hn, rfl, rfl, hs, rf, q⟩ := h
  have h65 := room65 hr
  cases rx; cases ry
  have fin : EP X pins σ Q (.bool false) s := ⟨.bl false, H, I, rfl, q⟩
  rcases hs with ⟨ha, hb⟩ | ⟨ha, hb⟩
  · obtain ⟨its, v1, p1, _⟩ := I.list ha
    obtain ⟨its2, v2, p2, _⟩ := I.list hb
    obtain ⟨hl, he⟩ := rf_items I v1 v2 rf X.A (by omega)
    have := SeqAt.RcNeAt.lists (A := X.A) (e := fun _ => true) p1.isList p2.isList (by simpa using hl) (by omega) he X.prog X.w X.xe (EP X pins σ Q)
    rw [all_t] at this
    exact this fin
  · obtain ⟨its, v1, p1, _⟩ := I.tuple ha
    obtain ⟨its2, v2, p2, _⟩ := I.tuple hb
    obtain ⟨hl, he⟩ := rf_items I v1 v2 rf X.A (by omega)
    have := SeqAt.RcNeAt.tuples (A := X.A) (e := fun _ => true) p1 p2 (by omega) he X.prog X.w X.xe (EP X pins σ Q)
    rw [all_t, show (its.toArray.size == its2.toArray.size) = true by simp [hl]] at this
    exact this fin
end
end Sd
namespace Sd
open PySem PySem.Spec PyProof.Rows L2
def scalP : PV → PV → Bool
  | .non, .non => true | .non, .int _ => true | .int _, .non => true | .non, .bl _ => true | .bl _, .non => true | .non, .str _ => true | .str _, .non => true
  | .int _, .int _ => true | .bl _, .bl _ => true | .str _, .str _ => true
  | .int _, .str _ => true | .str _, .int _ => true | .bl _, .str _ => true | .str _, .bl _ => true
  | _, _ => false
def sclE : PV → PV → Bool
  | .int i, .int j => decide (i = j)
  | .bl b, .bl c => decide (b = c)
  | _, _ => false
def isE : PV → PV → Bool
  | .dct [], .dct [] => true
  | .dct [(.str a, x)], .dct [(.str b, y)] => decide (a = b) && sclE x y
  | _, _ => false
def okD (x : PV) : Bool := match toD x with
  | some d => SeqAt.shaped d
  | none => false
theorem okD_inv {x : PV} (h : okD x = true) : ∃ d, toD x = some d ∧ SeqAt.shaped d = true := by
  unfold okD at h
  split at h
  · exact ⟨_, by assumption, h⟩
  · cases h
/-- the same thing twice: lists and tuples of scalars and empty dicts -/
def reflN : Nat → PV → PV → Bool
  | _, .non, .non => true
  | _, .bl a, .bl b => decide (a = b)
  | _, .int i, .int j => decide (i = j)
  | _, .str a, .str b => decide (a = b)
  | n + 1, .lst xs, .lst ys => decide (xs.length = ys.length) && (List.zipWith (reflN n) xs ys).all id
  | n + 1, .tup xs, .tup ys => decide (xs.length = ys.length) && (List.zipWith (reflN n) xs ys).all id
  | _ + 1, .dct [], .dct [] => true
  | _, _, _ => false
def reflT (x y : PV) : Bool := match x, y with
  | .lst _, .lst _ => reflN 20 x y
  | .tup _, .tup _ => reflN 20 x y
  | _, _ => false
def pEq (x y : PV) : Option SV := if (scalP x y || (okD x && okD y) || isE x y || reflT x y) = true then some (.fz (.bl (eqP x y))) else none
def pNe (x y : PV) : Option SV := if (scalP x y || (okD x && okD y) || reflT x y) = true then some (.fz (.bl (!eqP x y))) else none
section
variable {g : Ga} {H : Hp}
theorem rfl_of {n : Nat} (ih : ∀ (x y : PV) (v w : V), Rp g H v x → Rp g H w y → reflN n x y = true → Rf g.K H n v w) : ∀ {xs ys : List PV} {vs ws : List V}, RpL g H vs xs → RpL g H ws ys → xs.length = ys.length → (List.zipWith (reflN n) xs ys).all id = true → RfL g.K H n vs ws
  | _, _, _, _, .nil, .nil, _, _ => .nil
  | _, _, _, _, .nil, .cons _ _, hl, _ => by simp at hl
  | _, _, _, _, .cons _ _, .nil, hl, _ => by simp at hl
  | x :: xs, y :: ys, v :: vs, w :: ws, .cons a b, .cons c d, hl, h => by
    have h' := Bool.and_eq_true_iff.mp (show (reflN n x y && (List.zipWith (reflN n) xs ys).all id) = true from by simpa using h)
    exact .cons (ih x y v w a c h'.1) (rfl_of ih b d (by simpa using hl) h'.2)
theorem rf_of (n : Nat) : ∀ (x y : PV) (v w : V), Rp g H v x → Rp g H w y → reflN n x y = true → Rf g.K H n v w := by
  induction n with
  | zero =>
    intro x y v w a b h
    unfold reflN at h
    split at h
    · cases a; cases b; exact .scal rfl
    · cases a; cases b; rw [of_decide_eq_true h]; exact .scal rfl
    · cases a; cases b; rw [of_decide_eq_true h]; exact .scal rfl
    · cases a; cases b; rw [of_decide_eq_true h]; exact .scal rfl
    · rename_i e; cases e
    · rename_i e; cases e
    · rename_i e; cases e
    · cases h
  | succ n ih =>
    intro x y v w a b h
    unfold reflN at h
    split at h
    · cases a; cases b; exact .scal rfl
    · cases a; cases b; rw [of_decide_eq_true h]; exact .scal rfl
    · cases a; cases b; rw [of_decide_eq_true h]; exact .scal rfl
    · cases a; cases b; rw [of_decide_eq_true h]; exact .scal rfl
    · rename_i e
      cases e
      have h' := Bool.and_eq_true_iff.mp h
      cases a with
      | lst a1 a2 => cases b with
        | lst b1 b2 => exact .lst (SqL.of a1) (SqL.of b1) (rfl_of ih a2 b2 (of_decide_eq_true h'.1) h'.2)
    · rename_i e
      cases e
      have h' := Bool.and_eq_true_iff.mp h
      cases a with
      | tup a1 a2 => cases b with
        | tup b1 b2 => exact .tup a1 b1 (rfl_of ih a2 b2 (of_decide_eq_true h'.1) h'.2)
    · cases a with
      | dct0 a => cases b with
        | dct0 b => exact .d0 a b
    · cases h
theorem zip_eqPs {n : Nat} (ih : ∀ x y : PV, reflN n x y = true → eqP x y = true) : ∀ {xs ys : List PV}, xs.length = ys.length → (List.zipWith (reflN n) xs ys).all id = true → eqPs xs ys = true
  | [], [], _, _ => by rw [eqPs]
  | [], _ :: _, hl, _ => by simp at hl
  | _ :: _, [], hl, _ => by simp at hl
  | x :: xs, y :: ys, hl, h => by
    have h' := Bool.and_eq_true_iff.mp (show (reflN n x y && (List.zipWith (reflN n) xs ys).all id) = true from by simpa using h)
    rw [eqPs, ih x y h'.1, zip_eqPs ih (by simpa using hl) h'.2]; rfl
theorem refl_eqP (n : Nat) : ∀ (x y : PV), reflN n x y = true → eqP x y = true := by
  induction n with
  | zero =>
    intro x y h
    unfold reflN at h
    split at h
    · rw [eqP]
    · rw [of_decide_eq_true h, eqP]; simp
    · rw [of_decide_eq_true h, eqP]; simp
    · rw [of_decide_eq_true h, eqP]; simp
    · rename_i e; cases e
    · rename_i e; cases e
    · rename_i e; cases e
    · cases h
  | succ n ih =>
    intro x y h
    unfold reflN at h
    split at h
    · rw [eqP]
    · rw [of_decide_eq_true h, eqP]; simp
    · rw [of_decide_eq_true h, eqP]; simp
    · rw [of_decide_eq_true h, eqP]; simp
    · rename_i e
      cases e
      have h' := Bool.and_eq_true_iff.mp h
      rw [eqP]; exact zip_eqPs ih (of_decide_eq_true h'.1) h'.2
    · rename_i e
      cases e
      have h' := Bool.and_eq_true_iff.mp h
      rw [eqP]; exact zip_eqPs ih (of_decide_eq_true h'.1) h'.2
    · rw [eqP]
    · cases h
theorem refl_rule {A : List Addr} {v w : V} {x y : PV} (cx : Cn g A H v x) (cy : Cn g A H w y) (h : reflT x y = true) : eqP x y = true ∧ ∃ n a b xs ys, n ≤ 60 ∧ v = .ref a ∧ w = .ref b ∧ (SqL g.K H a xs ∧ SqL g.K H b ys ∨ SqT g.K H a xs ∧ SqT g.K H b ys) ∧ RfL g.K H n xs ys := by
  unfold reflT at h
  split at h
  · rename_i xs ys
    refine ⟨refl_eqP 20 _ _ h, ?_⟩
    have h' := Bool.and_eq_true_iff.mp (show (decide (xs.length = ys.length) && (List.zipWith (reflN 19) xs ys).all id) = true from by rw [reflN] at h; exact h)
    obtain ⟨a, vs, rfl, h1, h2⟩ := cx
    obtain ⟨b, us, rfl, h3, h4⟩ := cy
    exact ⟨19, a, b, vs, us, by decide, rfl, rfl, .inl ⟨SqL.of h1, SqL.of h3⟩, rfl_of (rf_of 19) (h2.mono mns_le) (h4.mono mns_le) (of_decide_eq_true h'.1) h'.2⟩
  · rename_i xs ys
    refine ⟨refl_eqP 20 _ _ h, ?_⟩
    have h' := Bool.and_eq_true_iff.mp (show (decide (xs.length = ys.length) && (List.zipWith (reflN 19) xs ys).all id) = true from by rw [reflN] at h; exact h)
    obtain ⟨a, vs, rfl, h1, h2⟩ := cnTup cx
    obtain ⟨b, us, rfl, h3, h4⟩ := cnTup cy
    exact ⟨19, a, b, vs, us, by decide, rfl, rfl, .inr ⟨h1, h3⟩, rfl_of (rf_of 19) (h2.mono mns_le) (h4.mono mns_le) (of_decide_eq_true h'.1) h'.2⟩
  · cases h
end
def rEqE : R2 := fun x y H Q => ∃ a b kvs, x = .ref a ∧ y = .ref b ∧ H a = some (.dK kvs) ∧ H b = some (.dK kvs) ∧ (kvs.map (·.1)).Nodup ∧ (∀ p ∈ kvs, flatB p.2 = true) ∧ Q (.bl true) H
def rEqX (K : PySem.W.Frag) : R2 := fun x y H Q => rEq x y H Q ∨ rEqD K x y H Q ∨ rEqE x y H Q ∨ rEqR K x y H Q
def rNeX (K : PySem.W.Frag) : R2 := fun x y H Q => rNe x y H Q ∨ rNeD K x y H Q ∨ rNeR K x y H Q
theorem o_eqX {X : Cx} {k : Nat} (hr : Room k X.A) : OpR X (compareOp .Eq) (rEqX X.K) := OpR.or o_eq (OpR.or (o_eqD hr) (OpR.or (op_eq_dict (by have := hr.units; omega)) (o_eqR hr)))
theorem o_neX {X : Cx} {k : Nat} (hr : Room k X.A) : OpR X (compareOp .NotEq) (rNeX X.K) := OpR.or o_ne (OpR.or (o_neD hr) (o_neR hr))
section
variable {g : Ga} {A : List Addr} {H : Hp}
theorem scal_of {v w : V} {x y : PV} (cx : Cn g A H v x) (cy : Cn g A H w y) (h : scalP x y = true) : scal v w = true ∧ decide (v = w) = eqP x y := by
  unfold scalP at h
  split at h
  all_goals first
    | (cases h; done)
    | (first | cases cnNon cx | cases cnInt cx | cases cnStr cx | cases cnBl cx
       first | cases cnNon cy | cases cnInt cy | cases cnStr cy | cases cnBl cy
       refine ⟨rfl, ?_⟩
       first | rfl | (simp only [eqP, Bool.beq_eq_decide_eq]; congr 1; simp) | simp [eqP, Bool.beq_eq_decide_eq])
end
theorem sclE_eq {x y : PV} (h : sclE x y = true) : eqP x y = true := by
  unfold sclE at h
  split at h
  · rw [of_decide_eq_true h, eqP]; simp
  · rw [of_decide_eq_true h, eqP]; simp
  · cases h
theorem isE_eq {x y : PV} (h : isE x y = true) : eqP x y = true := by
  unfold isE at h
  split at h
  · rw [eqP]
  · obtain ⟨e1, e2⟩ := Bool.and_eq_true_iff.mp h
    rw [eqP, of_decide_eq_true e1, sclE_eq e2]
    simp
  · cases h
theorem scl_same {x y : PV} {v w : V} (h : sclE x y = true) (hv : sclR v x = true) (hw : sclR w y = true) : v = w ∧ flatB w = true ∧ eqP x y = true := by
  cases x with
  | int i => cases y with
    | int j =>
      cases v with
      | int k => cases w with
        | int l =>
          have h1 := of_decide_eq_true h
          have h2 := of_decide_eq_true hv
          have h3 := of_decide_eq_true hw
          subst h1 h2 h3
          exact ⟨rfl, rfl, by rw [eqP]; simp⟩
        | _ => cases hw
      | _ => cases hv
    | _ => cases h
  | bl i => cases y with
    | bl j =>
      cases v with
      | bl k => cases w with
        | bl l =>
          have h1 := of_decide_eq_true h
          have h2 := of_decide_eq_true hv
          have h3 := of_decide_eq_true hw
          subst h1 h2 h3
          exact ⟨rfl, rfl, by rw [eqP]; simp⟩
        | _ => cases hw
      | _ => cases hv
    | _ => cases h
  | _ => cases h
theorem op_eqX {g : Ga} : Op2Ok g (rEqX g.K) pEq := by
  intro A H L v w x y s Q z cx cy hp q
  unfold pEq at hp
  split at hp
  · rename_i hc
    cases hp
    rcases Bool.or_eq_true_iff.mp hc with hc | hr
    rotate_left
    · obtain ⟨e1, n, a, b, xs, ys, h1, h2, h3, h4, h5⟩ := refl_rule cx cy hr
      refine .inr (.inr (.inr ⟨n, a, b, xs, ys, h1, h2, h3, h4, h5, ?_⟩))
      rw [e1] at q
      exact q _ _ (z.scal fun G => .bl _)
    rcases Bool.or_eq_true_iff.mp hc with hc | hc
    rcases Bool.or_eq_true_iff.mp hc with h | h
    · obtain ⟨h1, h2⟩ := scal_of cx cy h
      refine .inl ⟨h1, ?_⟩
      rw [h2]
      exact q _ _ (z.scal fun G => .bl _)
    · obtain ⟨h1, h2⟩ := Bool.and_eq_true_iff.mp h
      obtain ⟨d, d1, d2⟩ := okD_inv h1
      obtain ⟨e, e1, e2⟩ := okD_inv h2
      refine .inr (.inl ⟨d, e, cn_dp cx d1, cn_dp cy e1, d2, e2, ?_⟩)
      rw [eqP_D x y d1 e1]
      exact q _ _ (z.scal fun G => .bl _)
    · have he := isE_eq hc
      unfold isE at hc
      split at hc
      · cases (show Rp g (mns H A) v _ from cx) with
        | dct0 a => cases (show Rp g (mns H A) w _ from cy) with
          | dct0 b => exact .inr (.inr (.inl ⟨_, _, [], rfl, rfl, mns_le _ _ a, mns_le _ _ b, List.nodup_nil, (fun _ h => by cases h), q _ _ (z.scal fun G => .bl _)⟩))
      · obtain ⟨e1, e2⟩ := Bool.and_eq_true_iff.mp hc
        have e1 := of_decide_eq_true e1
        subst e1
        cases (show Rp g (mns H A) v _ from cx) with
        | dct1 a a2 => cases (show Rp g (mns H A) w _ from cy) with
          | dct1 b b2 =>
            obtain ⟨ev, ef, ee⟩ := scl_same e2 a2 b2
            subst ev
            rw [he] at q
            exact .inr (.inr (.inl ⟨_, _, [(.inr _, _)], rfl, rfl, mns_le _ _ a, mns_le _ _ b, by simp, (fun p hp => by rw [List.mem_singleton.mp hp]; exact ef), q _ _ (z.scal fun G => .bl _)⟩))
      · cases hc
  · cases hp
theorem op_neX {g : Ga} : Op2Ok g (rNeX g.K) pNe := by
  intro A H L v w x y s Q z cx cy hp q
  unfold pNe at hp
  split at hp
  · rename_i hc
    cases hp
    rcases Bool.or_eq_true_iff.mp hc with hc | hr
    rotate_left
    · obtain ⟨e1, n, a, b, xs, ys, h1, h2, h3, h4, h5⟩ := refl_rule cx cy hr
      refine .inr (.inr ⟨n, a, b, xs, ys, h1, h2, h3, h4, h5, ?_⟩)
      rw [e1] at q
      exact q _ _ (z.scal fun G => .bl _)
    rcases Bool.or_eq_true_iff.mp hc with h | h
    · obtain ⟨h1, h2⟩ := scal_of cx cy h
      refine .inl ⟨h1, ?_⟩
      rw [h2]
      exact q _ _ (z.scal fun G => .bl _)
    · obtain ⟨h1, h2⟩ := Bool.and_eq_true_iff.mp h
      obtain ⟨d, d1, d2⟩ := okD_inv h1
      obtain ⟨e, e1, e2⟩ := okD_inv h2
      refine .inr (.inl ⟨d, e, cn_dp cx d1, cn_dp cy e1, d2, e2, ?_⟩)
      rw [eqP_D x y d1 e1]
      exact q _ _ (z.scal fun G => .bl _)
  · cases hp
def isNon : PV → Bool
  | .non => true
  | _ => false
def pIsN : PV → PV → Option SV
  | x, .non => some (.fz (.bl (isNon x)))
  | _, _ => none
def pNotN : PV → PV → Option SV
  | x, .non => some (.fz (.bl (!isNon x)))
  | _, _ => none
theorem isNon_of {g : Ga} {A : List Addr} {H : Hp} {v : V} {x : PV} (cx : Cn g A H v x) : decide (v = .non) = isNon x := by
  cases x with
  | lst xs => obtain ⟨a, vs, rfl, _⟩ := cx; rfl
  | ins c fs => obtain ⟨_, a, dx, vs, rfl, _⟩ := cx; rfl
  | non => cases cnNon cx; rfl
  | bl b => cases cnBl cx; rfl
  | int b => cases cnInt cx; rfl
  | str b => cases cnStr cx; rfl
  | tup xs => obtain ⟨a, vs, rfl, _⟩ := cnTup cx; rfl
  | scr ns => obtain ⟨a, rfl, _⟩ := cnScr cx; rfl
  | dct _ => cases (show Rp g (mns H A) v _ from cx) <;> rfl
  | ty n => cases (show Rp g (mns H A) v _ from cx); rfl
  | cl n => cases (show Rp g (mns H A) v _ from cx); rfl
  | exn _ _ _ _ => cases (show Rp g (mns H A) v _ from cx); rfl
  | tset _ => obtain ⟨a, rfl, _⟩ := cx; rfl
  | iset _ => cases (show Rp g (mns H A) v _ from cx); rfl
  | map _ => obtain ⟨a, o, es, rfl, _⟩ := cx; rfl
  | omap _ => obtain ⟨a, o, es, B, rfl, _⟩ := cx; rfl
  | grd _ _ _ => obtain ⟨_, a, dx, v1, d1, d2, rfl, _⟩ := cx; rfl
  | nset _ => obtain ⟨a, o, L, rfl, _⟩ := cx; rfl
  | mapO _ _ _ => cases (show Rp g (mns H A) v _ from cx); rfl
theorem op_isN {g : Ga} : Op2Ok g rIsN pIsN := by
  intro A H L v w x y s Q z cx cy hp q
  unfold pIsN at hp
  split at hp
  · cases hp
    cases cnNon cy
    refine ⟨rfl, ?_⟩
    rw [isNon_of cx]
    exact q _ _ (z.scal fun G => .bl _)
  · cases hp
def flatP : PV → Bool
  | .non => true
  | .bl _ => true
  | .int _ => true
  | .str _ => true
  | _ => false
def inP (x : PV) (ys : List PV) : Bool := ys.any fun y => eqP y x
def pInB (x : PV) : PV → Option Bool
  | .lst ys => if (flatP x && ys.all flatP || (okD x && okD (.lst ys))) = true then some (inP x ys) else none
  | .tup ys => if (flatP x && ys.all flatP) = true then some (inP x ys) else none
  | .str z => match x with
    | .str ⟨⟨[c]⟩⟩ => some (decide (c ∈ z.cps.toList))
    | _ => none
  | .map kvs => (keyP x).map fun k => (lookM kvs k).isSome
  | .nset ks => (keyP x).map fun k => inS ks k
  | _ => none
def pIn (x y : PV) : Option SV := (pInB x y).map fun b => .fz (.bl b)
def pNotIn (x y : PV) : Option SV := (pInB x y).map fun b => .fz (.bl (!b))
def rInX (K : PySem.W.Frag) (w : World) : R2 := fun x y H Q => rIn K false x y H Q ∨ rInD K x y H Q ∨ rInS x y H Q ∨ rInN K w false x y H Q ∨ rInSN K w false x y H Q
def rNotInX (K : PySem.W.Frag) (w : World) : R2 := fun x y H Q => rIn K true x y H Q ∨ rNotInD K x y H Q ∨ rNotInS x y H Q ∨ rInN K w true x y H Q ∨ rInSN K w true x y H Q
theorem o_inX {X : Cx} {k : Nat} (hr : Room k X.A) : OpR X (compareOp .In) (rInX X.K X.w) := OpR.or o_in (OpR.or (o_inD hr) (OpR.or o_ins (OpR.or (o_inN hr) (o_inSN hr))))
theorem o_notInX {X : Cx} {k : Nat} (hr : Room k X.A) : OpR X (compareOp .NotIn) (rNotInX X.K X.w) := OpR.or o_nin (OpR.or (o_ninD hr) (OpR.or o_nins (OpR.or (o_notInN hr) (o_notInSN hr))))
section
variable {g : Ga} {A : List Addr} {H : Hp}
theorem flat_rp {v : V} {x : PV} (r : Rp g H v x) (h : flatP x = true) : flatV v = true := by
  cases r <;> first | rfl | cases h
theorem flat_cn {v : V} {x : PV} (c : Cn g A H v x) (h : flatP x = true) : flatV v = true ∧ Rp g H v x := by
  cases x <;> first | (cases h; done) | exact ⟨flat_rp (show Rp g (mns H A) v _ from c) rfl, Rp.mono mns_le _ (show Rp g (mns H A) v _ from c)⟩
theorem flat_eq {v w : V} {x y : PV} (rx : Rp g H v x) (ry : Rp g H w y) (hx : flatP x = true) (hy : flatP y = true) : eqV v w = eqP x y := by
  cases rx <;> first | (cases hx; done) | (cases ry <;> first | (cases hy; done) | simp [eqV, eqP])
theorem flat_all : ∀ {vs : List V} {ys : List PV}, RpL g H vs ys → ys.all flatP = true → vs.all flatV = true
  | _, _, .nil, _ => rfl
  | _, _, .cons r t, h => by
    rw [List.all_cons, Bool.and_eq_true] at h ⊢
    exact ⟨flat_rp r h.1, flat_all t h.2⟩
theorem flat_in {v : V} {x : PV} (rx : Rp g H v x) (hx : flatP x = true) : ∀ {vs : List V} {ys : List PV}, RpL g H vs ys → ys.all flatP = true → inV v vs = inP x ys
  | _, _, .nil, _ => rfl
  | _, _, .cons r t, h => by
    rw [List.all_cons, Bool.and_eq_true] at h
    unfold inV inP
    rw [List.any_cons, List.any_cons, flat_eq r rx h.1 hx]
    congr 1
    exact flat_in rx hx t h.2
theorem deep_in {x : PV} {d : PyData} (hd : toD x = some d) : ∀ {ys : List PV} {ds : List PyData}, toDs ys = some ds → (ds.any fun z => PyData.eqv z d) = inP x ys
  | [], _, h => by unfold toDs at h; cases h; rfl
  | y :: ys, _, h => by
    unfold toDs at h
    obtain ⟨e, a1, h2⟩ := Option.bind_eq_some_iff.mp h
    obtain ⟨es, a2, rfl⟩ := Option.map_eq_some_iff.mp h2
    unfold inP
    rw [List.any_cons, List.any_cons, eqP_D y x a1 hd]
    congr 1
    exact deep_in hd a2
theorem in_core {v w : V} {x y : PV} {b : Bool} (cx : Cn g A H v x) (cy : Cn g A H w y) (h : pInB x y = some b) :
    (∃ p vs, w = .ref p ∧ (SqL g.K H p vs ∨ SqT g.K H p vs) ∧ flatV v = true ∧ vs.all flatV = true ∧ inV v vs = b) ∨
    (∃ d ds, Dp g.K H v d ∧ Dp g.K H w (.list ds) ∧ SeqAt.shaped d = true ∧ SeqAt.shaped (.list ds) = true ∧ (ds.any fun z => PyData.eqv z d) = b) ∨
    (∃ (c : Nat) (z : Str), v = .str ⟨#[c]⟩ ∧ w = .str z ∧ decide (c ∈ z.cps.toList) = b) ∨
    (∃ a c o es k, v = .ref c ∧ w = .ref a ∧ DAt g.K g.w H a o es ∧ KeyIn g.K H k c ∧ (atKey es k).isSome = b) ∨
    (∃ a c o L k, v = .ref c ∧ w = .ref a ∧ SAt g.K g.w H a o L ∧ KeyIn g.K H k c ∧ decide (k ∈ L.map (·.2)) = b) := by
  unfold pInB at h
  split at h
  · rename_i ys
    split at h
    · rename_i hc
      cases h
      obtain ⟨a, vs, rfl, a1, a2⟩ := id cy
      rcases Bool.or_eq_true_iff.mp hc with h | h
      · obtain ⟨h1, h2⟩ := Bool.and_eq_true_iff.mp h
        obtain ⟨f1, f2⟩ := flat_cn cx h1
        have a3 := a2.mono (mns_le (H := H) (A := A))
        exact .inl ⟨a, vs, rfl, .inl (SqL.of a1), f1, flat_all a3 h2, flat_in f2 h1 a3 h2⟩
      · obtain ⟨h1, h2⟩ := Bool.and_eq_true_iff.mp h
        obtain ⟨d, d1, d2⟩ := okD_inv h1
        obtain ⟨e, e1, e2⟩ := okD_inv h2
        have e1' := e1
        unfold toD at e1'
        obtain ⟨ds, e3, rfl⟩ := Option.map_eq_some_iff.mp e1'
        exact .inr (.inl ⟨d, ds, cn_dp cx d1, cn_dp cy e1, d2, e2, deep_in d1 e3⟩)
    · cases h
  · rename_i ys
    split at h
    · rename_i hc
      cases h
      obtain ⟨a, vs, rfl, a1, a2⟩ := cnTup cy
      obtain ⟨h1, h2⟩ := Bool.and_eq_true_iff.mp hc
      obtain ⟨f1, f2⟩ := flat_cn cx h1
      have a3 := a2.mono (mns_le (H := H) (A := A))
      exact .inl ⟨a, vs, rfl, .inr a1, f1, flat_all a3 h2, flat_in f2 h1 a3 h2⟩
    · cases h
  · split at h
    · cases h
      cases cnStr cx; cases cnStr cy
      exact .inr (.inr (.inl ⟨_, _, rfl, rfl, rfl⟩))
    · cases h
  · obtain ⟨k, hk, rfl⟩ := Option.map_eq_some_iff.mp h
    obtain ⟨⟨xs, rfl⟩, k1, k2⟩ := keyP_inv hk
    obtain ⟨c, vs, rfl, b1, b2, b3⟩ := cnTup' cx
    obtain ⟨a, o, es, rfl, sm, d, e1, m⟩ := cy
    exact .inr (.inr (.inr (.inl ⟨a, c, o, es, k, rfl, rfl, RpM.dat sm d e1 m mns_le, ⟨(nk_of _ b3 k1).mono mns_le, k2⟩, m.some_iff k⟩)))
  · obtain ⟨k, hk, rfl⟩ := Option.map_eq_some_iff.mp h
    obtain ⟨⟨xs, rfl⟩, k1, k2⟩ := keyP_inv hk
    obtain ⟨c, vs, rfl, b1, b2, b3⟩ := cnTup' cx
    obtain ⟨a, o, L, rfl, e1, d, m⟩ := cy
    exact .inr (.inr (.inr (.inr ⟨a, c, o, L, k, rfl, rfl, ⟨e1, d, fun p hp => (m.keys p hp).mono mns_le⟩, ⟨(nk_of _ b3 k1).mono mns_le, k2⟩, m.in_iff k⟩)))
  · cases h
end
theorem op_inX {g : Ga} : Op2Ok g (rInX g.K g.w) pIn := by
  intro A H L v w x y s Q z cx cy hp q
  obtain ⟨b, hb, rfl⟩ := Option.map_eq_some_iff.mp hp
  have qb := q _ _ (z.scal (v := .bl b) fun G => .bl _)
  rcases in_core cx cy hb with ⟨p, vs, h1, h2, h3, h4, h5⟩ | ⟨d, ds, h1, h2, h3, h4, h5⟩ | ⟨c, zz, h1, h2, h3⟩ | ⟨a, c, o, es, k, h1, h2, h3, h4, h5⟩ | ⟨a, c, o, L, k, h1, h2, h3, h4, h5⟩
  · exact .inl ⟨p, vs, h1, h2, h3, h4, by rw [if_neg Bool.false_ne_true, h5]; exact qb⟩
  · exact .inr (.inl ⟨d, ds, h1, h2, h3, h4, by rw [h5]; exact qb⟩)
  · exact .inr (.inr (.inl ⟨c, zz, h1, h2, by rw [h3]; exact qb⟩))
  · exact .inr (.inr (.inr (.inl ⟨a, c, o, es, k, h1, h2, h3, h4, by rw [if_neg Bool.false_ne_true, h5]; exact qb⟩)))
  · exact .inr (.inr (.inr (.inr ⟨a, c, o, L, k, h1, h2, h3, h4, by rw [if_neg Bool.false_ne_true, h5]; exact qb⟩)))
theorem op_notInX {g : Ga} : Op2Ok g (rNotInX g.K g.w) pNotIn := by
  intro A H L v w x y s Q z cx cy hp q
  obtain ⟨b, hb, rfl⟩ := Option.map_eq_some_iff.mp hp
  have qb := q _ _ (z.scal (v := .bl (!b)) fun G => .bl _)
  rcases in_core cx cy hb with ⟨p, vs, h1, h2, h3, h4, h5⟩ | ⟨d, ds, h1, h2, h3, h4, h5⟩ | ⟨c, zz, h1, h2, h3⟩ | ⟨a, c, o, es, k, h1, h2, h3, h4, h5⟩ | ⟨a, c, o, L, k, h1, h2, h3, h4, h5⟩
  · exact .inl ⟨p, vs, h1, h2, h3, h4, by rw [if_pos rfl, h5]; exact qb⟩
  · exact .inr (.inl ⟨d, ds, h1, h2, h3, h4, by rw [h5]; exact qb⟩)
  · exact .inr (.inr (.inl ⟨c, zz, h1, h2, by rw [h3]; exact qb⟩))
  · exact .inr (.inr (.inr (.inl ⟨a, c, o, es, k, h1, h2, h3, h4, by rw [if_pos rfl, h5]; exact qb⟩)))
  · exact .inr (.inr (.inr (.inr ⟨a, c, o, L, k, h1, h2, h3, h4, by rw [if_pos rfl, h5]; exact qb⟩)))
def pIx : PV → PV → Option SV
  | .lst xs, .int i => (atI xs i).map .fz
  | .tup xs, .int i => (atI xs i).map .fz
  | .scr ns, .int i => (atI ns i).map fun n => .fz (.int n)
  | .str z, .int i => if z.length ≤ sizeLine then (atI z.cps.toList i).map fun c => .fz (.str ⟨#[c]⟩) else none
  | .map kvs, x => (keyP x).bind fun k => (lookM kvs k).map .fz
  | _, _ => none
theorem RpL.atI {g : Ga} {H : Hp} {vs : List V} {xs : List PV} {i : Int} {x : PV} (h : RpL g H vs xs) (e : L2.atI xs i = some x) : ∃ v, L2.atI vs i = some v ∧ Rp g H v x := by
  unfold L2.atI at e ⊢
  rw [h.length]
  obtain ⟨j, h1, h2⟩ := Option.bind_eq_some_iff.mp e
  obtain ⟨v, h3, h4⟩ := h.get h2
  exact ⟨v, by rw [h1]; exact h3, h4⟩
theorem op_ix {g : Ga} : Op2Ok g (rIx2 g.K g.w) pIx := by
  intro A H L v w x y s Q z cx cy hp q
  unfold pIx at hp
  split at hp
  · obtain ⟨x', h1, rfl⟩ := Option.map_eq_some_iff.mp hp
    cases cnInt cy
    obtain ⟨a, vs, rfl, a1, a2⟩ := cx
    obtain ⟨u, h2, h3⟩ := a2.atI h1
    exact .inl (.inl ⟨a, vs, _, u, rfl, rfl, SqL.of a1, h2, q _ _ (z.push h3).sr⟩)
  · obtain ⟨x', h1, rfl⟩ := Option.map_eq_some_iff.mp hp
    cases cnInt cy
    obtain ⟨a, vs, rfl, a1, a2⟩ := cnTup cx
    obtain ⟨u, h2, h3⟩ := a2.atI h1
    exact .inl (.inr (.inl ⟨a, vs, _, u, rfl, rfl, a1, h2, q _ _ (z.push h3).sr⟩))
  · obtain ⟨n, h1, rfl⟩ := Option.map_eq_some_iff.mp hp
    cases cnInt cy
    obtain ⟨a, rfl, a1⟩ := cnScr cx
    refine .inl (.inl ⟨a, _, _, .int n, rfl, rfl, a1, ?_, q _ _ (z.scal fun G => .int n)⟩)
    unfold L2.atI at h1 ⊢
    rw [List.length_map]
    obtain ⟨j, h2, h3⟩ := Option.bind_eq_some_iff.mp h1
    rw [h2]
    show (List.map V.int _)[j]? = _
    rw [List.getElem?_map, h3]; rfl
  · split at hp
    · obtain ⟨c, h1, rfl⟩ := Option.map_eq_some_iff.mp hp
      cases cnInt cy; cases cnStr cx
      exact .inl (.inr (.inr ⟨_, _, c, rfl, rfl, by assumption, h1, q _ _ (z.scal fun G => .str _)⟩))
    · cases hp
  · obtain ⟨k, hk, h1⟩ := Option.bind_eq_some_iff.mp hp
    obtain ⟨x', h2, rfl⟩ := Option.map_eq_some_iff.mp h1
    obtain ⟨⟨xs, rfl⟩, k1, k2⟩ := keyP_inv hk
    obtain ⟨c, vs, rfl, b1, b2, b3⟩ := cnTup' cy
    obtain ⟨a, o, es, rfl, sm, d, e1, m⟩ := cx
    rcases m.look k with ⟨x2, p, v, l1, l2, l3, l4⟩ | ⟨l1, l2⟩
    · rw [h2] at l1
      cases l1
      exact .inr ⟨a, c, o, es, k, p, v, rfl, rfl, RpM.dat sm d e1 m mns_le, ⟨(nk_of _ b3 k1).mono mns_le, k2⟩, l2, l3, q _ _ (z.push l4).sr⟩
    · rw [h2] at l1; cases l1
  · cases hp
def cutP {α : Type} (xs : List α) (lo hi : Option Int) : List α := (xs.drop (HT.sIx xs.length 0 lo)).take (HT.sIx xs.length xs.length hi - HT.sIx xs.length 0 lo)
def pSl (x : PV) (lo hi : Option Int) : Option SV := match x with
  | .lst xs => some (.ow (.lst (cutP xs lo hi)))
  | .scr ns => some (.ow (.lst (cutP (ns.map PV.int) lo hi)))
  | .tup xs => some (.fz (.tup (cutP xs lo hi)))
  | .str z => if z.length ≤ sizeLine then some (.fz (.str (cutS z lo hi))) else none
  | _ => none
def rSlX (K : PySem.W.Frag) : V → Option Int → Option Int → Hp → VK → Prop := fun x lo hi H Q => rSlL K x lo hi H Q ∨ rSlA K x lo hi H Q ∨ rSlS x lo hi H Q
theorem sl_X {X : Cx} : L2.SlR X (rSlX X.K) := L2.SlR.or sl_list (L2.SlR.or sl_tupA sl_str)
theorem RpL.cut {g : Ga} {H : Hp} {vs : List V} {xs : List PV} (h : RpL g H vs xs) (lo hi : Option Int) : RpL g H (cutV vs lo hi) (cutP xs lo hi) := by
  unfold cutV cutP
  rw [h.length]
  exact (h.drop _).take _
theorem op_sl {g : Ga} : OpSOk g (rSlX g.K) pSl := by
  intro A H L v x lo hi s Q z cx hp q
  unfold pSl at hp
  split at hp
  · cases hp
    obtain ⟨a, vs, rfl, a1, a2⟩ := cx
    exact .inl ⟨a, vs, rfl, SqL.of a1, fun p hp => q _ _ (z.newL hp (a2.cut lo hi)).sr⟩
  · cases hp
    rename_i ns
    obtain ⟨a, rfl, a1⟩ := cnScr cx
    exact .inl ⟨a, _, rfl, a1, fun p hp => q _ _ (z.newL hp ((RpL.ints ns).cut lo hi)).sr⟩
  · cases hp
    rename_i xs
    obtain ⟨a, vs, rfl, a1, a2, a3⟩ := cnTup' cx
    refine .inr (.inl ⟨a, vs, rfl, a1, fun e => ?_, fun _ p hp => q _ _ (z.newT hp (a2.cut lo hi)).sr⟩)
    have e2 : cutP xs lo hi = xs := by
      unfold cutP
      rw [a2.length] at e
      rw [e.1, e.2, List.drop_zero, Nat.sub_zero, List.take_length]
    rw [e2] at q
    exact q _ _ (z.push a3).sr
  · split at hp
    · cases hp
      cases cnStr cx
      exact .inr (.inr ⟨_, rfl, by assumption, q _ _ (z.scal fun G => .str _)⟩)
    · cases hp
  · cases hp
def pLen : List PV → Option SV
  | [.str z] => if z.length ≤ sizeLine then some (.fz (.int z.length)) else none
  | [.lst xs] => some (.fz (.int xs.length))
  | [.tup xs] => some (.fz (.int xs.length))
  | [.scr xs] => some (.fz (.int xs.length))
  | [.map kvs] => some (.fz (.int kvs.length))
  | _ => none
theorem op_len {g : Ga} : OpLOk g (rLen2 g.K g.w) pLen := by
  intro A H L vs xs s Q z c hp q
  unfold pLen at hp
  split at hp
  · split at hp
    · cases hp
      cases c with
      | cons c t =>
        cases t; cases cnStr c
        exact .inl ⟨_, _, rfl, ⟨by assumption, rfl⟩, q _ _ (z.scal fun G => .int _)⟩
    · cases hp
  · cases hp
    cases c with
    | cons c t =>
      cases t
      obtain ⟨a, vs, rfl, a1, a2⟩ := c
      exact .inl ⟨_, _, rfl, .inl ⟨vs, SqL.of a1, a2.length.symm⟩, q _ _ (z.scal fun G => .int _)⟩
  · cases hp
    cases c with
    | cons c t =>
      cases t
      obtain ⟨a, vs, rfl, a1, a2⟩ := cnTup c
      exact .inl ⟨_, _, rfl, .inr ⟨vs, a1, a2.length.symm⟩, q _ _ (z.scal fun G => .int _)⟩
  · cases hp
    rename_i ns
    cases c with
    | cons c t =>
      cases t
      obtain ⟨a, rfl, a1⟩ := cnScr c
      exact .inl ⟨_, _, rfl, .inl ⟨_, a1, (List.length_map _).symm⟩, q _ _ (z.scal fun G => .int _)⟩
  · cases hp
    cases c with
    | cons c t =>
      cases t
      obtain ⟨a, o, es, rfl, sm, d, e1, m⟩ := c
      exact .inr ⟨a, o, es, rfl, RpM.dat sm d e1 m mns_le, by rw [m.len]; exact q _ _ (z.scal fun G => .int _)⟩
  · cases hp
def pList : List PV → Option SV
  | [.lst xs] => some (.ow (.lst xs))
  | [.tup xs] => some (.ow (.lst xs))
  | [.scr ns] => some (.ow (.lst (ns.map PV.int)))
  | [.map kvs] => some (.ow (.lst (kvs.map (·.1))))
  | _ => none
theorem op_list {g : Ga} : OpLOk g (rListS2 g.K g.w) pList := by
  intro A H L vs xs s Q z c hp q
  unfold pList at hp
  split at hp
  · cases hp
    cases c with
    | cons c t =>
      cases t
      obtain ⟨a, vs, rfl, a1, a2⟩ := c
      exact .inl ⟨_, _, rfl, .inl (SqL.of a1), fun l hl => q _ _ (z.newL hl a2).sr⟩
  · cases hp
    cases c with
    | cons c t =>
      cases t
      obtain ⟨a, vs, rfl, a1, a2⟩ := cnTup c
      exact .inl ⟨_, _, rfl, .inr a1, fun l hl => q _ _ (z.newL hl a2).sr⟩
  · cases hp
    cases c with
    | cons c t =>
      cases t
      obtain ⟨a, rfl, a1⟩ := cnScr c
      exact .inl ⟨_, _, rfl, .inl a1, fun l hl => q _ _ (z.newL hl (RpL.ints _)).sr⟩
  · cases hp
    cases c with
    | cons c t =>
      cases t
      obtain ⟨a, o, es, rfl, sm, d, e1, m⟩ := c
      exact .inr ⟨a, o, es, rfl, RpM.dat sm d e1 m mns_le, fun l hl => q _ _ (z.newL hl m.keysL).sr⟩
  · cases hp
def pTuple : List PV → Option SV
  | [.lst xs] => some (.fz (.tup xs))
  | [.tup xs] => some (.fz (.tup xs))
  | _ => none
theorem op_tuple {g : Ga} : OpLOk g (rTupS g.K) pTuple := by
  intro A H L vs xs s Q z c hp q
  unfold pTuple at hp
  split at hp
  · cases hp
    cases c with
    | cons c t =>
      cases t
      obtain ⟨a, vs, rfl, a1, a2⟩ := c
      exact ⟨_, _, rfl, .inl ⟨SqL.of a1, fun l hl => q _ _ (z.newT hl a2).sr⟩⟩
  · cases hp
    cases c with
    | cons c t =>
      cases t
      obtain ⟨a, vs, rfl, a1, a2, a3⟩ := cnTup' c
      exact ⟨_, _, rfl, .inr ⟨a1, q _ _ (z.push a3).sr⟩⟩
  · cases hp
def pInt1 : List PV → Option SV
  | [.int i] => some (.fz (.int i))
  | [.bl b] => some (.fz (.int (if b then 1 else 0)))
  | _ => none
theorem op_int1 {g : Ga} : OpLOk g rInt1 pInt1 := by
  intro A H L vs xs s Q z c hp q
  unfold pInt1 at hp
  split at hp
  · cases hp
    cases c with
    | cons c t => cases t; cases cnInt c; exact .inl ⟨_, rfl, q _ _ (z.scal fun G => .int _)⟩
  · cases hp
    cases c with
    | cons c t => cases t; cases cnBl c; exact .inr ⟨_, rfl, q _ _ (z.scal fun G => .int _)⟩
  · cases hp
end Sd
namespace Sd
open PySem PySem.Spec PyProof.Rows L2
/-- own classes among themselves and among the built-in ones -/
def dsAll : List Str := ["Hand", "System", "Deeds", "Desk", "Ground"]
structure KitC (g : Ga) : Prop where
  ty : ∀ C ∈ dsAll, present g.K C = true → ∀ T ∈ kindsN, PySem.W.kitOne g.K (.type T) (.ref (g.c C)) = some false
  own : ∀ C ∈ dsAll, present g.K C = true → ∀ D ∈ dsAll, present g.K D = true → PySem.W.kitOne g.K (.ref (g.c D)) (.ref (g.c C)) = some (decide (D = C))
def tyP : PV → Option String
  | .non => some "NoneType"
  | .bl _ => some "bool"
  | .int _ => some "int"
  | .str _ => some "str"
  | .tup _ => some "tuple"
  | .lst _ => some "list"
  | .scr _ => some "list"
  | .dct _ => some "dict"
  | _ => none
/-- is x of a class: a built-in one; an own one -/
def isiB (x : PV) : PV → Option Bool
  | .ty n => match x with
    | .ins _ _ => if n ∈ kindsN then some false else none
    | _ => (tyP x).bind fun t => kitB t n
  | .cl C => if C ∈ dsAll then (match x with
    | .ins D _ => if D ∈ dsAll then some (decide (D = C)) else none
    | _ => (tyP x).map fun _ => false) else none
  | _ => none
def isiA (x : PV) : List PV → Option Bool
  | [] => some false
  | c :: cs => match isiB x c with
    | some true => some true
    | some false => isiA x cs
    | none => none
def pIsi : List PV → Option SV
  | [x, c] => (isiB x c).map fun b => .fz (.bl b)
  | _ => none
section
variable {g : Ga} {A : List Addr} {H : Hp} {v : V} {x : PV}
theorem tyP_mem {t : String} (h : tyP x = some t) : t ∈ kindsN := by
  cases x <;> cases h <;> simp [kindsN]
theorem tyx_of {t : String} (c : Cn g A H v x) (h : tyP x = some t) : TyX g.K H v (.type t) := by
  cases x with
  | non => cases cnNon c; cases h; exact .base .non
  | bl b => cases cnBl c; cases h; exact .base (.bl b)
  | int b => cases cnInt c; cases h; exact .base (.int b)
  | str b => cases cnStr c; cases h; exact .base (.str b)
  | tup xs =>
    cases h
    obtain ⟨a, vs, rfl, a1, _⟩ := cnTup c
    rcases a1 with (a1 | ⟨o, a1⟩) | ⟨o, its, n, a1, a2, _⟩
    · exact .base (.tup a1)
    · exact .fTuple a1
    · exact .kTuple a1 a2
  | lst xs =>
    cases h
    obtain ⟨a, vs, rfl, a1, _⟩ := c
    exact .base (.lst a1)
  | scr ns =>
    cases h
    obtain ⟨a, rfl, a1⟩ := cnScr c
    rcases a1 with (a1 | ⟨o, a1⟩) | ⟨o, its, n, a1, a2, _⟩
    · exact .base (.lst a1)
    · exact .base (.frz a1)
    · exact .kList a1 a2
  | dct kvs =>
    cases h
    cases (show Rp g (mns H A) v _ from c) with
    | dct0 a => exact .base (.dK (mns_le _ _ a))
    | dct1 a _ => exact .base (.dK (mns_le _ _ a))
  | _ => cases h
theorem tyx_ins {c : Str} {fs : List (Str × PV)} (h : Cn g A H v (.ins c fs)) : TyX g.K H v (.ref (g.c c)) ∧ ClsP g c := by
  obtain ⟨cp, a, dx, vfs, rfl, a1, _⟩ := h
  exact ⟨.base (.ins a1 cp.isc.cl cp.isc.ha cp.isc.hn cp.isc.ht cp.isc.hm), cp⟩
theorem cls_of {c : PV} {u : V} {b : Bool} (cc : Cn g A H u c) (h : isiB x c = some b) : ∃ cu, ClsV u cu ∧ (∀ n, c = .ty n → cu = .type n) ∧ ∀ C, c = .cl C → cu = .ref (g.c C) ∧ present g.K C = true := by
  cases c with
  | ty n => cases (show Rp g (mns H A) u _ from cc); exact ⟨_, .ty n, (fun _ e => by cases e; rfl), fun _ e => by cases e⟩
  | cl C =>
    cases (show Rp g (mns H A) u _ from cc) with
    | cl hp => exact ⟨_, .own _, (fun _ e => by cases e), fun _ e => by cases e; exact ⟨rfl, hp⟩⟩
  | _ => cases h
/-- what isinstance finds -/
theorem isi_core {c : PV} {u : V} {b : Bool} (K : KitC g) (cx : Cn g A H v x) (cc : Cn g A H u c) (h : isiB x c = some b) : ∃ t cu, ClsV u cu ∧ TyX g.K H v t ∧ PySem.W.kitOne g.K t cu = some b ∧ ((∃ n, tyP x = some n ∧ t = .type n) ∨ ∃ D fs, x = .ins D fs ∧ t = .ref (g.c D)) := by
  obtain ⟨cu, k1, k2, k3⟩ := cls_of cc h
  unfold isiB at h
  split at h
  · rename_i n
    have e := k2 n rfl
    subst e
    split at h
    · split at h
      · cases h
        obtain ⟨t1, cp⟩ := tyx_ins cx
        exact ⟨_, _, k1, t1, cp.kt n (by assumption), .inr ⟨_, _, rfl, rfl⟩⟩
      · cases h
    · obtain ⟨t, h1, h2⟩ := Option.bind_eq_some_iff.mp h
      exact ⟨_, _, k1, tyx_of cx h1, kb h2, .inl ⟨t, h1, rfl⟩⟩
  · rename_i C
    obtain ⟨e, pr⟩ := k3 C rfl
    subst e
    split at h
    · rename_i hC
      split at h
      · split at h
        · cases h
          obtain ⟨t1, cp⟩ := tyx_ins cx
          exact ⟨_, _, k1, t1, K.own C hC pr _ (by assumption) cp.pr, .inr ⟨_, _, rfl, rfl⟩⟩
        · cases h
      · obtain ⟨t, h1, h2⟩ := Option.map_eq_some_iff.mp h
        subst h2
        exact ⟨_, _, k1, tyx_of cx h1, K.ty C hC pr t (tyP_mem h1), .inl ⟨t, h1, rfl⟩⟩
    · cases h
  · cases h
end
theorem op_isi {g : Ga} (K : KitC g) : OpLOk g (rIsi g.K) pIsi := by
  intro A H L vs xs s Q z c hp q
  unfold pIsi at hp
  split at hp
  · obtain ⟨b, h1, rfl⟩ := Option.map_eq_some_iff.mp hp
    cases c with
    | cons c1 t =>
      cases t with
      | cons c2 t =>
        cases t
        obtain ⟨t, cu, k1, k2, k3, _⟩ := isi_core K c1 c2 h1
        exact ⟨_, _, _, _, b, rfl, k1, k2, k3, q _ _ (z.scal fun G => .bl _)⟩
  · cases hp
/-- isinstance(x, (A, B, ..)) -/
def clsV (g : Ga) : PV → V
  | .ty n => .ty n
  | .cl C => .ref (g.c C)
  | _ => .non
def clsVal (g : Ga) : PV → Value
  | .ty n => .type n
  | .cl C => .ref (g.c C)
  | _ => .none
def isCls : PV → Bool
  | .ty _ => true
  | _ => false
def tCs (g : Ga) : List PV → TA
  | [] => tNil
  | c :: cs => tCons (tC (clsV g c)) (tCs g cs)
def fIsiT (cs : List PV) (fe : FE) : FE := fun e => bnd (fe e) fun e1 r => (cn e1 r).bind fun x => (isiA x cs).map fun b => .ok e1 (.vl (.fz (.bl b)))
section
variable {g : Ga} {W : WX} {M : List Nat}
theorem tCs_go {σ : L2.St} {H : Hp} : ∀ (cs : List PV) {Q : List V → Hp → Prop}, Q (cs.map (clsV g)) H → tCs g cs σ H Q
  | [], _, q => q
  | c :: cs, _, q => tCs_go cs q
def tyW (g : Ga) (x : PV) : Value := match x with
  | .ins D _ => .ref (g.c D)
  | x => match tyP x with
    | some n => .type n
    | none => .none
theorem tyW_of {x : PV} {t : Value} (h : (∃ n, tyP x = some n ∧ t = .type n) ∨ ∃ D fs, x = .ins D fs ∧ t = .ref (g.c D)) : t = tyW g x := by
  rcases h with ⟨n, h, rfl⟩ | ⟨D, fs, rfl, rfl⟩
  · cases x <;> cases h <;> rfl
  · rfl
theorem isiA_ty {A : List Addr} {H : Hp} {v : V} {x : PV} (K : KitC g) (cx : Cn g A H v x) : ∃ t : Value, (TyX g.K H v t ∨ tyP x = none) ∧ ∀ cs b, cs.all isCls = true → cs ≠ [] → isiA x cs = some b → TyX g.K H v t ∧ PySem.W.kitAny g.K t (cs.map (clsVal g)) = some b := by
  have one : ∀ c b, isCls c = true → isiB x c = some b → ∃ t, TyX g.K H v t ∧ PySem.W.kitOne g.K t (clsVal g c) = some b ∧ ((∃ n, tyP x = some n ∧ t = .type n) ∨ ∃ D fs, x = .ins D fs ∧ t = .ref (g.c D)) := fun c b hc h => by
    have cc : Cn g A H (clsV g c) c := by
      cases c with
      | ty n => exact Rp.ty n
      | _ => cases hc
    obtain ⟨t, cu, k1, k2, k3, k4⟩ := isi_core K cx cc h
    have e : cu = clsVal g c := by
      cases c with
      | ty n => cases k1; rfl
      | _ => cases hc
    subst e
    exact ⟨t, k2, k3, k4⟩
  have uniq : ∃ t : Value, ∀ t', ((∃ n, tyP x = some n ∧ t' = .type n) ∨ ∃ D fs, x = .ins D fs ∧ t' = .ref (g.c D)) → t' = t := ⟨tyW g x, fun t' h => tyW_of h⟩
  obtain ⟨t, ht⟩ := uniq
  have go : ∀ cs b, cs.all isCls = true → isiA x cs = some b → PySem.W.kitAny g.K t (cs.map (clsVal g)) = some b := by
    intro cs
    induction cs with
    | nil => intro b _ h; cases h; rfl
    | cons c cs ih =>
      intro b hc h
      rw [List.all_cons, Bool.and_eq_true] at hc
      unfold isiA at h
      rw [List.map_cons]
      unfold PySem.W.kitAny
      split at h
      · cases h
        obtain ⟨t', k1, k2, k3⟩ := one c true hc.1 (by assumption)
        rw [ht t' k3] at k2
        rw [k2]
      · obtain ⟨t', k1, k2, k3⟩ := one c false hc.1 (by assumption)
        rw [ht t' k3] at k2
        rw [k2]
        exact ih b hc.2 h
      · cases h
  refine ⟨t, ?_, fun cs b hc hne h => ?_⟩
  · cases q : tyP x with
    | none => exact .inr rfl
    | some n =>
      have := ht (.type n) (.inl ⟨n, q, rfl⟩)
      exact .inl (this ▸ tyx_of cx q)
  · cases cs with
    | nil => exact (hne rfl).elim
    | cons c cs =>
      refine ⟨?_, go _ b hc h⟩
      rw [List.all_cons, Bool.and_eq_true] at hc
      unfold isiA at h
      split at h
      · obtain ⟨t', k1, k2, k3⟩ := one c true hc.1 (by assumption)
        rw [ht t' k3] at k1; exact k1
      · obtain ⟨t', k1, k2, k3⟩ := one c false hc.1 (by assumption)
        rw [ht t' k3] at k1; exact k1
      · cases h
theorem cls_pairs : ∀ (cs : List PV), cs.all isCls = true → Paired ClsV (cs.map (clsV g)) (cs.map (clsVal g))
  | [], _ => .nil
  | c :: cs, hc => by
    rw [List.all_cons, Bool.and_eq_true] at hc
    refine .cons ?_ (cls_pairs cs hc.2)
    cases c with
    | ty n => exact .ty n
    | _ => cases hc.1
theorem simE_isiT {cs : List PV} {te : TE} {fe : FE} (K : KitC g) (hc : cs.all isCls = true) (hn : cs ≠ []) (hl : cs.length ≤ 100) (he : SimE g W te fe) : SimE g W (tCB (rIsiT g.K) (tCons te (tCons (tTup (tCs g cs)) tNil))) (fIsiT cs fe) := by
  intro H σ e L Q o hl1 S hf post
  rcases bnd_inv hf with ⟨e1, x, h1, rfl⟩ | ⟨e1, r, h1, h2⟩
  · exact he H σ e L _ _ hl1 S h1 post
  · refine he H σ e L _ _ hl1 S h1 fun v H1 hl2 b1 S1 => ?_
    obtain ⟨x, hx, h3⟩ := Option.bind_eq_some_iff.mp h2
    obtain ⟨b, hb, rfl⟩ := Option.map_eq_some_iff.mp h3
    have S2 := S1.tail
    refine tCs_go (g := g) cs ⟨by rw [List.length_map]; exact Nat.le_trans hl (by decide), fun p hp => ?_⟩
    obtain ⟨A, z⟩ := S1
    obtain ⟨z', _⟩ := z.alloc (o := .tup (cs.map (clsV g))) hp
    have cx := z'.cn (σ := σ) (e := e1) (fun en h => List.mem_cons_of_mem _ (List.mem_append_left _ h)) List.mem_cons_self b1 hx
    obtain ⟨t, _, hk⟩ := isiA_ty K cx
    obtain ⟨k1, k2⟩ := hk cs b hc hn hb
    refine ⟨v, p, _, t, _, b, rfl, upd_same, ?_, k1, k2, post _ _ hl2 trivial ((S2.grow (Same.new hp)).scal fun G => .bl _)⟩
    exact cls_pairs cs hc
def rFldP (K : PySem.W.Frag) (f : Str) : V → Hp → VK → Prop := fun x H1 Q => ∃ a C dx fs v, x = .ref a ∧ H1 a = some (.ins C dx fs) ∧ Cls K C ∧ NoAttr K C f ∧ fs.lookup f = some v ∧ Q v H1
def pFld (f : Str) : PV → Option SV
  | .ins c fs => if f ∈ fieldsOf c then (fs.lookup f).map .fz else none
  | _ => none
theorem op_fld {f : Str} : Op1Ok g (rFldP g.K f) (pFld f) := by
  intro A H L v x s Q z cx hp q
  unfold pFld at hp
  split at hp
  · split at hp
    · obtain ⟨y, h1, rfl⟩ := Option.map_eq_some_iff.mp hp
      obtain ⟨cp, a, dx, vfs, rfl, a1, a2⟩ := cx
      obtain ⟨u, h2, h3⟩ := a2.get h1
      exact ⟨a, _, dx, vfs, u, rfl, a1, cp.isc.cl, cp.na f (by assumption), h2, q _ _ (z.push h3).sr⟩
    · cases hp
  · cases hp
theorem simE_fld {f : Str} {te : TE} {fe : FE} (he : SimE g W te fe) : SimE g W (tFld g.K te f) (fUn (pFld f) fe) := simE_un (r := rFldP g.K f) op_fld he
def pAppend (ys : List PV) : List PV → Option (List PV × SV)
  | [x] => if ys.length < sizeLine then some (ys ++ [x], .fz .non) else none
  | _ => none
theorem mut_append : MutOk g rApp pAppend := by
  intro A H a L ys vs us xs ys' s Q z h1 h2 h3 hp q
  unfold pAppend at hp
  split at hp
  · split at hp
    · cases hp
      cases h3 with
      | cons r t =>
        cases t
        refine ⟨a, vs, _, rfl, rfl, h1, by rw [h2.length]; assumption, q _ _ ?_⟩
        exact (z.write (h2.append (.cons r .nil))).sr.scal fun G => .non
    · cases hp
  · cases hp
def pInsert (ys : List PV) : List PV → Option (List PV × SV)
  | [.int i, x] => if ys.length < sizeLine ∧ 0 ≤ i ∧ i < 2 ^ 63 then some (ys.take i.toNat ++ [x] ++ ys.drop i.toNat, .fz .non) else none
  | _ => none
theorem RpL.dropLast {H : Hp} {vs : List V} {xs : List PV} (h : RpL g H vs xs) : RpL g H vs.dropLast xs.dropLast := by
  rw [List.dropLast_eq_take, List.dropLast_eq_take, h.length]; exact h.take _
def fgSet (i : Nat) (fi : FE) : FG := fun r e => (frz e r).bind fun q => (ownLst q.1[i]?).bind fun _ => match fi q.1 with
  | some (.ok e2 ri) => (match cn e2 ri with
    | some (.int k) => (ownLst e2[i]?).bind fun ys => (ixN ys.length k).map fun j => e2.set i (.ow (.lst (ys.set j q.2)))
    | _ => none)
  | _ => none
theorem own_slot {H : Hp} {σ : L2.St} {e : Ev} {L : List En} {i : Nat} {ys : List PV} (hl : σ.length = e.length) (S : SR g H (zp σ e ++ L)) (h : e[i]? = some (.ow (.lst ys))) : ∃ a, σ[i]? = some (some (.ref a)) := by
  obtain ⟨ov, ho⟩ := slot_at hl h
  obtain ⟨A, z⟩ := S
  have m := List.mem_append_left L (zip_mem ho h)
  obtain n | ⟨v, rfl⟩ := z.sl.mem_some m
  · cases n
  obtain ⟨P, ow, _⟩ := z.sl.mem_ow m
  obtain ⟨a, vs0, rfl, _⟩ := ow
  exact ⟨a, ho⟩
theorem simG_set {i : Nat} {ti : TE} {fi : FE} (hi : SimE g W ti fi) : SimG g M (gSub (tVar i) ti rSetL) (fgSet i fi) := by
  intro H σ e L v r Q e' hl hb S hf q
  obtain ⟨⟨e1, x⟩, h1, h2⟩ := Option.bind_eq_some_iff.mp hf
  have S1 := frz_ok S hb h1
  have l1 := frz_len h1
  obtain ⟨y0, h0, h2⟩ := Option.bind_eq_some_iff.mp h2
  dsimp only at h2 h0
  have hl1 : σ.length = e1.length := by rw [l1]; exact hl
  obtain ⟨a, ha⟩ := own_slot hl1 S1.tail (ownLst_inv h0)
  refine ⟨.ref a, ha, ?_⟩
  cases hfi : fi e1 with
  | none => rw [hfi] at h2; cases h2
  | some o =>
    rw [hfi] at h2
    cases o with
    | er _ _ => cases h2
    | ok e2 ri =>
      dsimp only at h2
      cases hk : cn e2 ri with
      | none => rw [hk] at h2; cases h2
      | some y =>
        rw [hk] at h2
        cases y with
        | int k =>
          dsimp only at h2
          obtain ⟨ys, h3, h4⟩ := Option.bind_eq_some_iff.mp h2
          obtain ⟨j, h5, rfl⟩ := Option.map_eq_some_iff.mp h4
          have h3' := ownLst_inv h3
          refine hi H σ e1 ((some v, .fz x) :: L) _ _ hl1 (S1.perm (pm_cons _ _ _)) hfi fun w H2 hl2 b2 S2 => ?_
          have S3 := S2.tail
          obtain ⟨A, z⟩ := S2
          cases cnInt (z.cn (σ := σ) (e := e2) (fun en h => List.mem_cons_of_mem _ (List.mem_append_left _ h)) List.mem_cons_self b2 hk)
          obtain ⟨R, p1, p2, _⟩ := SR.slotP (H := H2) (L := (some v, .fz x) :: L) ha h3'
          obtain ⟨A3, z3⟩ := S3.perm p1
          obtain ⟨a', vs, ea, _, k2, k3⟩ := z3.ownL
          cases ea
          have mx : (some v, SV.fz x) ∈ (some (V.ref a), SV.ow (.lst ys)) :: R := p1.mem_iff.mp (List.mem_append_right _ List.mem_cons_self)
          refine ⟨a, vs, k, j, rfl, rfl, k2, by rw [k3.length]; exact h5, ?_⟩
          refine q σ _ (by rw [List.length_set]; exact hl2) Fx.refl ?_
          have S5 := ((z3.write (k3.set (z3.sl.mem_fz mx) j)).sr).perm (p2 _).symm
          exact SR.tail (S5.perm (pm_cons _ _ _).symm)
        | _ => cases h2
def fRaise (c f : Str) (fa : FA) : FS := fun e => bndS (fa e) fun e1 rs => (frzs e1 rs).bind fun q => match q.2 with
  | [x] => some (.er q.1 ⟨c, f, x⟩)
  | _ => none
theorem simS_raise {c f : Str} {E : XK} {ta : TA} {fa : FA} (ha : SimA g (wOf E) ta fa) : SimS g (wOf E) M (tRaiseX (g.c c) f E ta) (fRaise c f fa) := by
  intro H σ e L D o hl S hf post
  rcases bndS_inv hf with ⟨e1, x, h1, rfl⟩ | ⟨e1, rs, h1, h2⟩
  · exact ha H σ e L _ _ hl S h1 fun l => post σ l Fx.refl
  · refine ha H σ e L _ _ hl S h1 fun vs H1 hl1 bs S1 => ?_
    obtain ⟨⟨e2, xs⟩, hq, h3⟩ := Option.bind_eq_some_iff.mp h2
    have S2 := frzs_ok bs S1 hq
    obtain ⟨l1, l2⟩ := frzs_len hq
    have hv : vs.length = xs.length := by rw [bs.length]; exact l2.symm
    dsimp only at h3
    split at h3
    · cases h3
      match vs, hv with
      | [v], _ =>
        refine ⟨v, rfl, fun d hd => ?_⟩
        have S3 : SR g H1 ((some v, .fz _) :: (zp σ e2 ++ L)) := S2
        exact post σ (by rw [l1]; exact hl1) Fx.refl d v _ upd_same (S3.grow (Same.new hd))
    · cases h3
def ownIns : Option SV → Option (Str × List (Str × PV))
  | some (.ow (.ins c fs)) => some (c, fs)
  | _ => none
theorem ownIns_inv {o : Option SV} {q : Str × List (Str × PV)} (h : ownIns o = some q) : o = some (.ow (.ins q.1 q.2)) := by
  unfold ownIns at h
  split at h
  · cases h; rfl
  · cases h
theorem SRA.writeI {A : List Addr} {H : Hp} {L : List En} {a dx : Addr} {c : Str} {fs fs' : List (Str × PV)} {vfs vfs' : List (Str × V)} (h : SRA g A H ((some (.ref a), .ow (.ins c fs)) :: L)) (ha : H a = some (.ins (g.c c) dx vfs)) (r : RpF g (mns H A) vfs' fs') : SRA g A (upd H a (.ins (g.c c) dx vfs')) ((some (.ref a), .ow (.ins c fs')) :: L) := by
  obtain ⟨nd, nn, sl⟩ := h
  cases sl with
  | @ow _ _ P _ A ro t =>
    obtain ⟨cp, b, dx', vs, e1, e2, e3, e4⟩ := ro
    cases e1
    subst e2
    have hm : a ∈ [a] ++ A := by simp
    have hn : a ∉ A := (List.nodup_cons.mp nd).1
    refine ⟨nd, fun c hc => ?_, ?_⟩
    · by_cases hca : c = a
      · rw [hca, upd_same]; simp
      · rw [upd_ne hca]; exact nn c hc
    · rw [mns_upd hm]
      exact Sls.ow (P := [a]) ⟨cp, a, dx, vfs', rfl, rfl, upd_same, r⟩ (t.mono (Same.refl _) fun c hc => upd_ne fun z => hn (z ▸ hc))
theorem SRA.ownI {A : List Addr} {H : Hp} {L : List En} {v : V} {c : Str} {fs : List (Str × PV)} (h : SRA g A H ((some v, .ow (.ins c fs)) :: L)) : ClsP g c ∧ ∃ a dx vfs, v = .ref a ∧ a ∈ A ∧ H a = some (.ins (g.c c) dx vfs) ∧ RpF g (mns H A) vfs fs := by
  obtain ⟨nd, nn, sl⟩ := h
  cases sl with
  | @ow _ _ P _ A ro t =>
    obtain ⟨cp, b, dx', vs, e1, e2, e3, e4⟩ := ro
    subst e2
    exact ⟨cp, b, dx', vs, e1, by simp, e3, e4⟩
def fFld (i : Nat) (f : Str) (fe : FE) : FS := fun e => bndS (fe e) fun e1 r => (frz e1 r).bind fun q => (ownIns q.1[i]?).bind fun w => if f ∈ fieldsOf w.1 ∧ w.2.length < 1000 then some (.nx (q.1.set i (.ow (.ins w.1 (putP f q.2 w.2))))) else none
theorem simS_fld {i : Nat} {f : Str} {te : TE} {fe : FE} (he : SimE g W te fe) : SimS g W M (sFld g.K (tVar i) te f) (fFld i f fe) := by
  intro H σ e L D o hl S hf post
  rcases bndS_inv hf with ⟨e1, x, h1, rfl⟩ | ⟨e1, r, h1, h2⟩
  · exact he H σ e L _ _ hl S h1 fun l => post σ l Fx.refl
  · refine he H σ e L _ _ hl S h1 fun v H1 hl1 b1 S1 => ?_
    obtain ⟨⟨e2, x⟩, h3, h4⟩ := Option.bind_eq_some_iff.mp h2
    obtain ⟨⟨c, fs⟩, h5, h6⟩ := Option.bind_eq_some_iff.mp h4
    have S2 := frz_ok S1 b1 h3
    have l2 := frz_len h3
    have h5' := ownIns_inv h5
    dsimp only at h5' h6
    split at h6
    · rename_i hc
      cases h6
      have hl2 : σ.length = e2.length := by rw [l2]; exact hl1
      obtain ⟨ov, ho⟩ := slot_at hl2 h5'
      obtain ⟨R, p1, p2, _⟩ := SR.slotP (H := H1) (L := L) ho h5'
      have S3 : SR g H1 ((ov, .ow (.ins c fs)) :: (some v, .fz x) :: R) := (S2.perm (p1.cons _)).swap
      obtain ⟨A, z⟩ := S3
      obtain n | ⟨u, rfl⟩ := z.sl.mem_some List.mem_cons_self
      · cases n
      obtain ⟨cp, a, dx, vfs, rfl, _, k2, k3⟩ := z.ownI
      refine ⟨.ref a, ho, a, g.c c, dx, vfs, rfl, k2, cp.isc.cl, cp.na f hc.1, ?_, ?_⟩
      · have := congrArg List.length k3.names
        rw [List.length_map, List.length_map] at this
        rw [this]; exact hc.2
      · have S4 := (z.writeI k2 (k3.put (f := f) (z.sl.mem_fz (List.mem_cons_of_mem _ List.mem_cons_self)))).sr
        exact post σ _ (by rw [List.length_set]; exact hl2) Fx.refl ((SR.drop1 S4).perm (p2 _).symm)
    · cases h6
end
end Sd
namespace Sd
open PySem PySem.Spec PyProof.Rows L2
end Sd
namespace Sd
open PySem PySem.Spec PyProof.Rows L2
section
variable {g : Ga} {W : WX} {M : List Nat}
def fAug (p : Int → Int → Int) (i : Nat) (fe : FE) : FS := fun e => match e[i]? with
  | some (.fz (.int a)) => bndS (fe e) fun e1 r => match cn e1 r with
    | some (.int b) => if i < e1.length then some (.nx (e1.set i (.fz (.int (p a b))))) else none
    | _ => none
  | _ => none
def pRev : PV → Option SV
  | .lst xs => some (.ow (.lst xs.reverse))
  | _ => none
theorem simE_rev {te : TE} {fe : FE} (he : SimE g W te fe) : SimE g W (tRevL g.K te) (fUn pRev fe) := by
  refine simE_un (r := fun x H1 Q => ∃ a xs, x = .ref a ∧ SqL g.K H1 a xs ∧ ∀ p, H1 p = none → Q (.ref p) (upd H1 p (.lst xs.reverse))) ?_ he
  intro A H L v x s Q z cx hp q
  unfold pRev at hp
  split at hp
  · cases hp
    obtain ⟨a, vs, rfl, a1, a2⟩ := cx
    exact ⟨a, vs, rfl, SqL.of a1, fun p hp => q _ _ (z.newL hp a2.reverse).sr⟩
  · cases hp
def sortI (ns : List Int) : List Int := ns.mergeSort fun a b => decide (a ≤ b)
theorem sortI_perm (ns : List Int) : (sortI ns).Perm ns := List.mergeSort_perm ns _
theorem sortI_asc (ns : List Int) : (sortI ns).Pairwise (· ≤ ·) := by
  have := List.pairwise_mergeSort (le := fun a b : Int => decide (a ≤ b)) (fun a b c h1 h2 => by simp at *; omega) (fun a b => by simp; omega) ns
  exact this.imp fun h => by simpa using h
theorem perm_sorted {l m : List Int} (p : l.Perm m) (hl : l.Pairwise (· ≤ ·)) (hm : m.Pairwise (· ≤ ·)) : l = m := by
  induction l generalizing m with
  | nil => exact (List.nil_perm.mp p).symm
  | cons a l ih =>
    cases m with
    | nil => exact absurd p.length_eq (by simp)
    | cons b m =>
      obtain ⟨h1, h2⟩ := List.pairwise_cons.mp hl
      obtain ⟨k1, k2⟩ := List.pairwise_cons.mp hm
      have e : a = b := by
        have ha : a ∈ b :: m := p.mem_iff.mp List.mem_cons_self
        have hb : b ∈ a :: l := p.mem_iff.mpr List.mem_cons_self
        rcases List.mem_cons.mp ha with e | ha
        · exact e
        · rcases List.mem_cons.mp hb with e | hb
          · exact e.symm
          · have := h1 b hb
            have := k1 a ha
            omega
      subst e
      rw [ih p.cons_inv h2 k2]
def intsOf : List PV → Option (List Int)
  | [] => some []
  | .int i :: r => (intsOf r).map fun l => i :: l
  | _ :: _ => none
theorem intsOf_inv : ∀ {xs : List PV} {ns : List Int}, intsOf xs = some ns → xs = ns.map PV.int
  | [], ns, h => by cases h; rfl
  | x :: xs, ns, h => by
    cases x with
    | int i =>
      obtain ⟨l, h1, rfl⟩ := Option.map_eq_some_iff.mp (show (intsOf xs).map (fun l => i :: l) = some ns from h)
      rw [List.map_cons, intsOf_inv h1]
    | _ => cases h
def txtsOf : List PV → Option (List Str)
  | [] => some []
  | .str i :: r => (txtsOf r).map fun l => i :: l
  | _ :: _ => none
theorem txtsOf_inv : ∀ {xs : List PV} {ns : List Str}, txtsOf xs = some ns → xs = ns.map PV.str
  | [], ns, h => by cases h; rfl
  | x :: xs, ns, h => by
    cases x with
    | str i =>
      obtain ⟨l, h1, rfl⟩ := Option.map_eq_some_iff.mp (show (txtsOf xs).map (fun l => i :: l) = some ns from h)
      rw [List.map_cons, txtsOf_inv h1]
    | _ => cases h
theorem txtsOf_map (ns : List Str) : txtsOf (ns.map PV.str) = some ns := by
  induction ns with
  | nil => rfl
  | cons n ns ih => rw [List.map_cons, txtsOf, ih]; rfl
/-- sorted(a list of ints, or of different texts) -/
def pSorted : List PV → Option SV
  | [.lst xs] => match intsOf xs with
    | some ns => some (.ow (.lst ((sortI ns).map PV.int)))
    | none => match txtsOf xs with
      | some ws => if ws.length < 64 ∧ ws.Nodup then some (.ow (.lst ((uniq ws).map PV.str))) else none
      | none => none
  | _ => none
def rSortedX (K : PySem.W.Frag) : List V → Hp → VK → Prop := fun vs H Q => rSortedI K vs H Q ∨ rSortedS K vs H Q
theorem cr_sortedX {X : Cx} : CallR X (.builtin "sorted") (rSortedX X.K) := CallR.or cr_sortedI cr_sortedS
theorem op_sorted : OpLOk g (rSortedX g.K) pSorted := by
  intro A H L vs xs s Q z c hp q
  unfold pSorted at hp
  split at hp
  · cases c with
    | cons c t =>
      cases t
      obtain ⟨a, vs, rfl, a1, a2⟩ := c
      split at hp
      · rename_i ns hn
        cases hp
        rw [intsOf_inv hn] at a2
        have e := a2.ints_inv
        subst e
        refine .inl ⟨a, ns, rfl, SqL.of a1, fun ns' p h1 h2 hp => ?_⟩
        rw [perm_sorted (h1.trans (sortI_perm ns).symm) h2 (sortI_asc ns)]
        exact q _ _ (z.newL hp (RpL.ints _)).sr
      · split at hp
        · rename_i ws hw
          split at hp
          · rename_i hb
            cases hp
            rw [txtsOf_inv hw] at a2
            have e := a2.strs_inv
            subst e
            refine .inr ⟨a, ws, rfl, SqL.of a1, hb.1, fun ys p h1 h2 hp => ?_⟩
            rw [uniq_eq (sorted_asc h2 (h1.nodup_iff.mpr hb.2)) fun y => h1.mem_iff]
            exact q _ _ (z.newL hp (RpL.strs _)).sr
          · cases hp
        · cases hp
  · cases hp
def mkF (c : Str) (F : PF) (dxs : List PV) : PF := fun as => match F (.ow (.ins c []) :: (as ++ dxs.map SV.fz)) with
  | some (s :: r, .ok (.fz .non)) => some (r.take as.length, .ok s)
  | some (_ :: r, .er x) => some (r.take as.length, .er x)
  | _ => none
theorem mk_new {c : Str} {n m : Nat} {F : PF} {dvs : List V} {dxs : List PV} (cp : ClsP g c) (hd : ∀ G, RpL g G dvs dxs) (hn : n + dxs.length + 1 = m) (hF : ∀ as w, as.length = m → F as = some w → w.1.length = m) : ∀ vs H Q E, PSp g n (mkF c F dxs) vs H Q E → spMk (g.c c) (PSp g m F) dvs vs H Q E := by
  intro vs H Q E ⟨L, as, as', o, h1, h2, h3, S, hf, post⟩ x dx hx hdx hne
  have dl : dvs.length = dxs.length := (hd (fun _ => none)).length
  have s0 : Same H (upd H dx (.own x)) := Same.new hdx
  have hx' : (upd H dx (.own x)) x = none := by rw [upd_ne (Ne.symm hne)]; exact hx
  have S1 : SR g (upd (upd H dx (.own x)) x (.ins (g.c c) dx [])) ((some (.ref x), .ow (.ins c [])) :: (zp (vs.map some) as ++ L)) := by
    obtain ⟨A, z⟩ := S.grow s0
    have hp : x ∉ A := fun m => z.nn x m hx'
    have e : Same (mns (upd H dx (.own x)) A) (mns (upd (upd H dx (.own x)) x (.ins (g.c c) dx [])) (x :: A)) := fun b o q => by
      by_cases hb : b ∈ A
      · rw [mns_in hb] at q; cases q
      · rw [mns_out hb] at q
        have hbp := ne_of_none q hx'
        rw [mns_out (by simp [hb, hbp]), upd_ne hbp]; exact q
    refine ⟨x :: A, List.nodup_cons.mpr ⟨hp, z.nd⟩, fun a ha => ?_, Sls.ow (P := [x]) ⟨cp, x, dx, [], rfl, rfl, upd_same, .nil⟩ (z.sl.mono e fun a ha => upd_ne (show a ≠ x from fun q => hp (q ▸ ha)))⟩
    rcases List.mem_cons.mp ha with rfl | ha
    · rw [upd_same]; simp
    · rw [upd_ne (show a ≠ x from fun q => hp (q ▸ ha))]; exact z.nn a ha
  unfold mkF at hf
  have zapp : zp ((V.ref x :: (vs ++ dvs)).map some) (.ow (.ins c []) :: (as ++ dxs.map SV.fz)) = (some (.ref x), .ow (.ins c [])) :: (zp (vs.map some) as ++ zp (dvs.map some) (dxs.map SV.fz)) := by
    rw [List.map_cons, List.map_append]
    show (some (V.ref x), SV.ow (PV.ins c [])) :: List.zip _ _ = _
    rw [List.zip_append (by rw [List.length_map, h1, h2])]
  have S2 : SR g (upd (upd H dx (.own x)) x (.ins (g.c c) dx [])) (zp ((V.ref x :: (vs ++ dvs)).map some) (.ow (.ins c []) :: (as ++ dxs.map SV.fz)) ++ L) := by
    rw [zapp]
    have := (RpL.all hd S1).perm (pm_cons _ _ _).symm
    rw [List.cons_append, List.append_assoc]
    exact this.perm ((pm_app _ _ _).cons _)
  have lens : (V.ref x :: (vs ++ dvs)).length = m ∧ (SV.ow (PV.ins c []) :: (as ++ dxs.map SV.fz)).length = m := by
    simp only [List.length_cons, List.length_append, List.length_map]
    omega
  have cut : ∀ {H' : Hp} {s : SV} {r : List SV} {en : En}, (s :: r).length = m → SR g H' (en :: (zp ((V.ref x :: (vs ++ dvs)).map some) (s :: r) ++ L)) → SR g H' (en :: (some (.ref x), s) :: (zp (vs.map some) (r.take as.length) ++ L)) := fun {H' s r en} hl S' => by
    have e4 : r = r.take as.length ++ r.drop as.length := (List.take_append_drop _ _).symm
    have lt : (r.take as.length).length = vs.length := by
      simp only [List.length_cons] at hl
      rw [List.length_take]; omega
    have zz : zp ((V.ref x :: (vs ++ dvs)).map some) (s :: r) = (some (.ref x), s) :: (zp (vs.map some) (r.take as.length) ++ zp (dvs.map some) (r.drop as.length)) := by
      conv => lhs; rw [e4]
      rw [List.map_cons, List.map_append]
      show (some (V.ref x), s) :: List.zip _ _ = _
      rw [List.zip_append (by rw [List.length_map, lt])]
    rw [zz, List.cons_append, List.append_assoc] at S'
    have S3 : SR g H' (en :: (zp (dvs.map some) (r.drop as.length) ++ ((some (.ref x), s) :: (zp (vs.map some) (r.take as.length) ++ L)))) := S'.perm ((((pm_app _ _ _).cons _).trans (pm_cons _ _ _)).cons _)
    exact SR.dropZ S3
  split at hf
  · rename_i s r hr
    cases hf
    have lr := hF _ _ lens.2 hr
    refine ⟨L, _, s :: r, .ok (.fz .non), lens.1, lens.2, lr, S2, hr, fun v H' S' => ?_⟩
    have S3 := cut lr S'
    refine ⟨?_, post _ H' S3.tail⟩
    obtain ⟨A, z⟩ := S3
    cases z.top; rfl
  · rename_i s r x' hr
    cases hf
    have lr := hF _ _ lens.2 hr
    refine ⟨L, _, s :: r, .er x', lens.1, lens.2, lr, S2, hr, fun d v H' hd S' => ?_⟩
    exact post d v H' hd (SR.drop1 (cut lr S'))
  · cases hf
theorem mkF_len {c : Str} {n m : Nat} {F : PF} {dxs : List PV} (hn : n + dxs.length + 1 = m) (hF : ∀ as w, as.length = m → F as = some w → w.1.length = m) : ∀ as w, as.length = n → mkF c F dxs as = some w → w.1.length = n := by
  intro as w hl h
  unfold mkF at h
  have lens : (SV.ow (PV.ins c []) :: (as ++ dxs.map SV.fz)).length = m := by
    simp only [List.length_cons, List.length_append, List.length_map]
    omega
  split at h
  · rename_i s r hr
    cases h
    have lr := hF _ _ lens hr
    simp only [List.length_cons] at lr
    show (r.take as.length).length = n
    rw [List.length_take]; omega
  · rename_i s r x' hr
    cases h
    have lr := hF _ _ lens hr
    simp only [List.length_cons] at lr
    show (r.take as.length).length = n
    rw [List.length_take]; omega
  · cases h
end
end Sd
namespace Sd
open PySem PySem.Spec PyProof.Rows L2
def oexB (K : PySem.W.Frag) (C : Addr) : Bool := match K.lookup C with
  | some ⟨.type "type", _, .cls cd, sl⟩ => (match cd.mro, sl.toList with
    | .ref C' :: bm, [_, _, _, _, some (.builtin n), _] => decide (C' = C) && (decide (n = "ValueError.__new__") && (!cd.hasDel && (cd.hasDict && PySem.HandSPX.refsVE bm)))
    | _, _ => false)
  | _ => false
theorem oexB_ok {K : PySem.W.Frag} {C : Addr} (q : oexB K C = true) : ∃ nm q N bs bm sn sub ab col dd k0 k1 k2 k3 k5, K.lookup C = some (excClassObj nm q C N bs bm true sn sub ab col dd k0 k1 k2 k3 k5 "ValueError.__new__") ∧ PySem.HandSPX.refsVE bm = true := by
  unfold oexB at q
  split at q
  · rename_i dd cd sl ho
    split at q
    · rename_i C' bm k0 k1 k2 k3 n k5 hm hs
      obtain ⟨q1, q⟩ := Bool.and_eq_true_iff.mp q
      obtain ⟨q2, q⟩ := Bool.and_eq_true_iff.mp q
      obtain ⟨q3, q⟩ := Bool.and_eq_true_iff.mp q
      obtain ⟨q4, q5⟩ := Bool.and_eq_true_iff.mp q
      have e1 := of_decide_eq_true q1
      have e2 := of_decide_eq_true q2
      subst e1 e2
      obtain ⟨nm, bs, mro, ns, qn, hd, sn, sub, ab, col, del⟩ := cd
      dsimp only at hm q3 q4
      have e3 : del = false := by cases del <;> simp_all
      subst hm e3 q4
      have hsl : sl = #[k0, k1, k2, k3, some (.builtin "ValueError.__new__"), k5] := by
        obtain ⟨l⟩ := sl
        simp only at hs
        rw [hs]
      subst hsl
      exact ⟨nm, qn, ns, bs, bm, sn, sub, ab, col, dd, k0, k1, k2, k3, k5, ho, q5⟩
    · cases q
  · cases q
def xB (K : PySem.W.Frag) (x f : Str) : Bool := oexB K (He.ga K x) && (xfB K (He.ga K x) && (decide (PySem.W.findIn K (.ref (He.ga K x)) "__setattr__" = some (some (.builtin "object.__setattr__"))) && (decide (PySem.W.typeIn K (.ref (He.ga K x)) = some (.type "type")) && (PySem.W.keepIn K (.ref (He.ga K x)) && (decide (PySem.W.findIn K (.ref (He.ga K x)) f = some none) &&
  (decide (PySem.W.findIn K (.ref (He.ga K x)) "__init__" = some (some (.ref (He.fAd K (x, some "__init__"))))) && decide (PySem.W.typeIn K (.ref (He.fAd K (x, some "__init__"))) = some (.type "function"))))))))
theorem xB_ok {g : Ga} {x f : Str} (h : xB g.K x f = true) : OexC g.K (g.c x) ∧ XfC g.K (g.c x) ∧ PySem.W.findIn g.K (.ref (g.c x)) f = some none ∧ PySem.W.findIn g.K (.ref (g.c x)) "__init__" = some (some (.ref (He.fAd g.K (x, some "__init__")))) ∧ PySem.W.typeIn g.K (.ref (He.fAd g.K (x, some "__init__"))) = some (.type "function") := by
  obtain ⟨h1, h⟩ := Bool.and_eq_true_iff.mp h
  obtain ⟨h2, h⟩ := Bool.and_eq_true_iff.mp h
  obtain ⟨h3, h⟩ := Bool.and_eq_true_iff.mp h
  obtain ⟨h4, h⟩ := Bool.and_eq_true_iff.mp h
  obtain ⟨h5, h⟩ := Bool.and_eq_true_iff.mp h
  obtain ⟨h6, h⟩ := Bool.and_eq_true_iff.mp h
  obtain ⟨h7, h8⟩ := Bool.and_eq_true_iff.mp h
  have xf := xfB_ok h2
  exact ⟨⟨oexB_ok h1, of_decide_eq_true h3, xf.exC, of_decide_eq_true h4, h5⟩, xf, of_decide_eq_true h6, of_decide_eq_true h7, of_decide_eq_true h8⟩
end Sd
namespace Sd
open PySem PySem.Spec PyProof.Rows L2
/-- turns of a while loop, more than any of them takes -/
@[irreducible] def bigN : Nat := 1000000
theorem bigN_eq : bigN = 1000000 := by unfold bigN; rfl
section
variable {X : Cx} {lv : Nat} {x : Str} {ps : List Str} {dvs : List V} {sp : Sp} {p pos apos : Pos} {e o : Expr} {es : List Expr} {t : TA} {ta : TE} {C m : Str} {W : WX}
theorem pe_me0E {E : XK} {pl : Sem Bool} (c : CalN (gX X) X.mg X.base lv C m ps dvs sp) (ho : PE X o ta) (hr : Room lv X.A) (hx : Passes (L2.CX X.prog X.w) X E)
    (hs : eval (.Call (.Attribute o m apos) [] [] pos) X.env = (do
      let ov ← eval o X.env
      standAt apos.atName
      let (f, first) ← holding [ov] (getMethod ov m pl)
      callWith pos f first (backTo pos (starEach [] X.env)) (backToKw pos (keywordEach [] X.env))) := by rfl) :
    PE X (.Call (.Attribute o m apos) [] [] pos) (tMeth ((gX X).c C) m sp dvs E ta tNil) := by
  obtain ⟨f, fd, ds, cl, M, F, hb, hv⟩ := c.ex
  exact pe_meth0 ho cl M F hr hb hv hx hs
end
section
variable {g : Ga} {W : WX}
def fDNew : FE := fun e => some (.ok e (.vl (.fz (.dct []))))
theorem simE_dnew : SimE g W tDNewK fDNew := by
  intro H σ e L Q o hl S hf post
  cases hf
  intro p hp
  obtain ⟨A, z⟩ := S
  obtain ⟨z2, e2⟩ := z.alloc (o := .dK []) hp
  exact post _ _ hl trivial (z2.push (.dct0 e2)).sr
/-- an instance of the class without a field of this name -/
def isIns (c m : Str) : PV → Bool
  | .ins c' fs => decide (c' = c) && (fs.lookup m).isNone
  | _ => false
theorem rv_ins {c m : Str} : RecvOk g (g.c c) m (isIns c m) := by
  intro A H v x cx hx
  cases x with
  | ins c' fs =>
    obtain ⟨h1, h2⟩ := Bool.and_eq_true_iff.mp (show (decide (c' = c) && (fs.lookup m).isNone) = true from hx)
    have e := of_decide_eq_true h1
    subst e
    obtain ⟨cp, a, dx, vfs, rfl, a1, a2⟩ := cx
    refine ⟨a, dx, vfs, rfl, a1, a2.none_of ?_⟩
    cases q : fs.lookup m with
    | none => rfl
    | some y => rw [q] at h2; cases h2
  | _ => cases hx
end
end Sd
namespace Sd
open PySem PySem.Spec PyProof.Rows L2
abbrev Put := Addr → V → Hp → (Hp → Prop) → Prop
section
variable {g : Ga} {W : WX} {M : List Nat}
abbrev Bd := L2.St → Hp → (Hp → Prop) → Prop
abbrev FB := Ev → PV → Option (Ev × PV)
def bd1 (put : Put) (D : Addr) (tt : TT) (te : TE) : Bd := fun σ2 H2 Nx => tt σ2 H2 fun b H3 => if b = true then te σ2 H3 fun y H4 => put D y H4 Nx else Nx H3
def pSet : List PV → Option SV
  | [.lst xs] => match txtsOf xs with
    | some ws => if ws.length ≤ 1000 then some (.fz (.tset (allT ws))) else none
    | none => match intsOf xs with
      | some ns => if ns.length ≤ 1000 then some (.fz (.iset ns)) else none
      | none => none
  | [.tup xs] => match txtsOf xs with
    | some ws => if ws.length ≤ 1000 then some (.fz (.tset (allT ws))) else none
    | none => none
  | _ => none
def rSetX (K : PySem.W.Frag) (w : World) : List V → Hp → VK → Prop := fun vs H Q => rSetT K w vs H Q ∨ rSetI K w vs H Q
theorem cr_setX {X : Cx} (hc : X.calm = true) : CallR X (.type "set") (rSetX X.K X.w) := CallR.or (cr_setT hc) (cr_setI hc)
theorem op_set : OpLOk g (rSetX g.K g.w) pSet := by
  intro A H L vs xs s Q z c hp q
  unfold pSet at hp
  split at hp
  · cases c with
    | cons c t =>
      cases t
      obtain ⟨a, vs, rfl, a1, a2⟩ := c
      split at hp
      · rename_i ws hw
        split at hp
        · cases hp
          rw [txtsOf_inv hw] at a2
          have e := a2.strs_inv
          subst e
          refine .inl ⟨a, ws, rfl, .inl (SqL.of a1), by assumption, fun p hp => ?_⟩
          obtain ⟨z2, e2⟩ := z.alloc (o := TxO g.w p (allT ws)) hp
          exact q _ _ (z2.push (.tset e2)).sr
        · cases hp
      · split at hp
        · rename_i ns hn
          split at hp
          · cases hp
            rw [intsOf_inv hn] at a2
            have e := a2.ints_inv
            subst e
            refine .inr ⟨a, ns, rfl, SqL.of a1, by assumption, fun p c h1 h2 hp => ?_⟩
            obtain ⟨z2, e2⟩ := z.alloc (o := SetO g.w p (fun j => decide (j ∈ ns)) c) hp
            exact q _ _ (z2.push (.iset e2 h1 h2)).sr
          · cases hp
        · cases hp
  · cases c with
    | cons c t =>
      cases t
      obtain ⟨a, vs, rfl, a1, a2⟩ := cnTup c
      split at hp
      · rename_i ws hw
        split at hp
        · cases hp
          rw [txtsOf_inv hw] at a2
          have e := a2.strs_inv
          subst e
          refine .inl ⟨a, ws, rfl, .inr a1, by assumption, fun p hp => ?_⟩
          obtain ⟨z2, e2⟩ := z.alloc (o := TxO g.w p (allT ws)) hp
          exact q _ _ (z2.push (.tset e2)).sr
        · cases hp
      · cases hp
  · cases hp
def pSortedS : List PV → Option SV
  | [.tset ks] => some (.ow (.lst ((uniq ks).map PV.str)))
  | [.iset ns] => if ns.length < 64 then some (.ow (.lst ((uniqI ns).map PV.int))) else none
  | xs => pSorted xs
def rSortedA (K : PySem.W.Frag) (w : World) : List V → Hp → VK → Prop := fun vs H Q => rSortedX K vs H Q ∨ rSortX w vs H Q ∨ rSortedSet w vs H Q
theorem cr_sortedA {X : Cx} (hc : X.calm = true) : CallR X (.builtin "sorted") (rSortedA X.K X.w) := CallR.or cr_sortedX (CallR.or (cr_sortX hc) (cr_sortedSet hc))
theorem uniqI_lt (ns : List Int) : (uniqI ns).Pairwise (· < ·) := asc_uniqI ns
theorem uniqI_mem (ns : List Int) (k : Int) : k ∈ uniqI ns ↔ k ∈ ns := mem_uniqI
theorem ltI_ext {l m : List Int} (hl : l.Pairwise (· < ·)) (hm : m.Pairwise (· < ·)) (h : ∀ k, k ∈ l ↔ k ∈ m) : l = m := by
  have nl : l.Nodup := hl.imp fun h => by omega
  have nm : m.Nodup := hm.imp fun h => by omega
  have p : l.Perm m := (List.perm_ext_iff_of_nodup nl nm).mpr h
  exact perm_sorted p (hl.imp fun h => by omega) (hm.imp fun h => by omega)
theorem op_sortedA : OpLOk g (rSortedA g.K g.w) pSortedS := by
  intro A H L vs xs s Q z c hp q
  unfold pSortedS at hp
  split at hp
  · cases hp
    cases c with
    | cons c t =>
      cases t
      obtain ⟨a, rfl, a1⟩ := c
      exact .inr (.inl ⟨a, _, rfl, a1, fun p hp => q _ _ (z.newL hp (RpL.strs _)).sr⟩)
  · split at hp
    · rename_i ns hl
      cases hp
      cases c with
      | cons c t =>
        cases t
        cases (show Rp g (mns H A) _ (.iset ns) from c) with
        | iset b1 b2 b3 =>
          refine .inr (.inr ⟨_, _, _, rfl, mns_le _ _ b1, by omega, fun ns' p h1 h2 h3 hp => ?_⟩)
          rw [ltI_ext h1 (uniqI_lt ns) fun k => (h2 k).trans (by rw [uniqI_mem]; simp)]
          exact q _ _ (z.newL hp (RpL.ints _)).sr
    · cases hp
  · exact .inl (op_sorted A H L vs _ s Q z c hp q)
end
end Sd
namespace Sd
open PySem PySem.Spec PyProof.Rows L2
/-- no class of a value overrides the == of C -/
structure NfC (g : Ga) (C : Str) : Prop where
  ty : ∀ T ∈ kindsN, PySem.W.notFirst g.K (g.c C) (.type T) = true
  own : ∀ D ∈ dsAll, present g.K D = true → PySem.W.notFirst g.K (g.c C) (.ref (g.c D)) = true
def nfB (K : PySem.W.Frag) (C : Str) : Bool := kindsN.all (fun T => PySem.W.notFirst K (He.ga K C) (.type T)) && dsAll.all fun D => !present K D || PySem.W.notFirst K (He.ga K C) (.ref (He.ga K D))
theorem nfB_ok {g : Ga} {C : Str} (h : nfB g.K C = true) : NfC g C := by
  obtain ⟨h1, h2⟩ := Bool.and_eq_true_iff.mp h
  refine ⟨fun T m => List.all_eq_true.mp h1 T m, fun D m p => ?_⟩
  have := List.all_eq_true.mp h2 D m
  rw [p] at this
  exact this
/-- a value with a kind that is known -/
def kindOk : PV → Bool
  | .ins D _ => dsAll.contains D
  | y => (tyP y).isSome
def eqOk (C : Str) : PV → PV → Bool
  | .ins D _, y => decide (D = C) && kindOk y
  | _, _ => false
def fEqO (C : Str) (F : PF) (fa fb : FE) : FE := fun e => bnd (fCons fa (fCons fb fNil) e) fun e1 rs => (frzs e1 rs).bind fun q => match q.2 with
  | [x, y] => if eqOk C x y = true then (match F [.fz x, .fz y] with
    | some (_, .ok (.fz (.bl b))) => some (.ok q.1 (.vl (.fz (.bl b))))
    | _ => none) else none
  | _ => none
theorem simE_eqO {g : Ga} {W : WX} {C : Str} {F : PF} {ta tb : TE} {fa fb : FE} (nf : NfC g C) (hF : ∀ as w, as.length = 2 → F as = some w → w.1.length = 2) (ha : SimE g W ta fa) (hb : SimE g W tb fb) : SimE g W (tOp (rEqO g.K (g.c C) (PSp g 2 F)) ta tb) (fEqO C F fa fb) := by
  intro H σ e L Q o hl S hf post
  have h0 := simA_cons ha (simA_cons hb simA_nil)
  show tCons ta (tCons tb tNil) σ H (fun vs H2 => match vs with | [x, y] => rEqO g.K (g.c C) (PSp g 2 F) x y H2 Q | _ => False)
  rcases bnd_inv hf with ⟨e1, x, h1, rfl⟩ | ⟨e1, rs, h1, h2⟩
  · exact h0 H σ e L _ _ hl S h1 post
  · refine h0 H σ e L _ _ hl S h1 fun vs H1 hl1 bs S1 => ?_
    obtain ⟨⟨e2, xs⟩, hq, h3⟩ := Option.bind_eq_some_iff.mp h2
    have S2 := frzs_ok bs S1 hq
    obtain ⟨l1, l2⟩ := frzs_len hq
    have hv : vs.length = xs.length := by rw [bs.length]; exact l2.symm
    dsimp only at h3
    split at h3
    · rename_i x y
      obtain ⟨v, w, rfl⟩ : ∃ v w, vs = [v, w] := by
        match vs, hv with
        | [v, w], _ => exact ⟨v, w, rfl⟩
      split at h3
      · rename_i hok
        cases hFx : F [.fz x, .fz y] with
        | none => rw [hFx] at h3; cases h3
        | some wr =>
          rw [hFx] at h3
          obtain ⟨as', ro⟩ := wr
          have fin : ∀ b, ro = .ok (.fz (.bl b)) → o = .ok e2 (.vl (.fz (.bl b))) → rEqO g.K (g.c C) (PSp g 2 F) v w H1 Q := fun b hro ho => by
            subst hro ho
            have la := hF _ _ rfl hFx
            obtain ⟨A, z⟩ := id S2
            have rx : Rp g (mns H1 A) v x := z.top
            have ry : Rp g (mns H1 A) w y := SRA.top (L := zp σ e2 ++ L) (z.tail fun _ q => by cases q)
            cases x with
            | ins D fs =>
              have hok' := Bool.and_eq_true_iff.mp (show (decide (D = C) && kindOk y) = true from hok)
              have hD := of_decide_eq_true hok'.1
              subst hD
              cases rx with
              | ins cp hx hfs =>
                have hty : ∃ t, TyX g.K H1 w t ∧ PySem.W.notFirst g.K (g.c D) t = true := by
                  cases y with
                  | ins D' fs' =>
                    have := tyx_ins (A := A) (Cn.of_rp ry)
                    exact ⟨_, this.1, nf.own D' (List.contains_iff_mem.mp hok'.2) this.2.pr⟩
                  | _ =>
                    first
                    | exact ⟨_, tyx_of (A := A) (Cn.of_rp ry) rfl, nf.ty _ (by simp [kindsN])⟩
                    | cases hok'.2
                obtain ⟨t, ht, hn⟩ := hty
                refine ⟨_, _, _, t, rfl, mns_le _ _ hx, ht, hn, zp σ e2 ++ L, [.fz (.ins D fs), .fz y], as', _, rfl, rfl, la, S2, hFx, fun u H' S' => ?_⟩
                have hu : u = .bl b := by
                  obtain ⟨A', z'⟩ := id S'
                  have := z'.top
                  cases this
                  rfl
                subst hu
                refine ⟨b, rfl, post (.bl b) H' (by rw [l1]; exact hl1) trivial (SR.dropZ S')⟩
            | _ => cases hok
          cases ro with
          | er _ => cases h3
          | ok sv =>
            cases sv with
            | fz zz =>
              cases zz with
              | bl b => cases h3; exact fin b rfl rfl
              | _ => cases h3
            | _ => cases h3
      · cases h3
    · cases h3
end Sd
namespace Sd.Pu
open PySem PySem.Spec PyProof.Rows L2
noncomputable def lb1_is_name : FS := (fIf (fTest (fOp pNotIn (fVar 1) (fC (.str "abcdefghijklmnopqrstuvwxyz")))) (fRet (fC (.bl false))) fNext)
def t_is_name (g : Ga) (E : XK) : TS := (tSeq (tIfS (tOr (tNot (tTru2 g.K g.w (tCB (rIsi g.K) (tCons (tVar 0) (tCons (tC (.ty "str")) tNil))))) (tNot (tTest (tChain rLe rLe (tC (.int 1)) (tCB (rLen2 g.K g.w) (tCons (tVar 0) tNil)) (tC (.int 12)))))) (tRet (tC (.bl false))) tNext) (tSeq (tFor (iStr (tVar 0)) (gName 1) (tIfS (tTest (tOp (rNotInX g.K g.w) (tVar 1) (tC (.str "abcdefghijklmnopqrstuvwxyz")))) (tRet (tC (.bl false))) tNext)) (tRet (tC (.bl true)))))
noncomputable def f_is_name : FS := (fSeq (fIf (fOr (fNot (fTru (fCB pIsi (fCons (fVar 0) (fCons (fC (.ty "str")) fNil))))) (fNot (fTest (fChain bLe bLe (fC (.int 1)) (fCB pLen (fCons (fVar 0) fNil)) (fC (.int 12)))))) (fRet (fC (.bl false))) fNext) (fSeq (fFor (fiStr (fVar 0)) (fgName 1) lb1_is_name) (fRet (fC (.bl true)))))
@[irreducible] noncomputable def F_is_name : PF := fnOf [] 2 1 f_is_name
theorem un_is_name : F_is_name = fnOf [] 2 1 f_is_name := by rw [F_is_name]
theorem fl_is_name : ∀ as w, as.length = 1 → F_is_name as = some w → w.1.length = 1 := by rw [un_is_name]; exact fnOf_len
theorem sim_is_name {g : Ga} {E : XK} (K : KitC g) : SimS g (wOf E) [] (t_is_name g E) f_is_name := (simS_seq (simS_if (simT_or (simT_not (simT_tru (simE_cb (op_isi K) (simA_cons (simE_var 0) (simA_cons (simE_c fun G => .ty _) simA_nil))))) (simT_not (simT_test (simE_chain cLe cLe (simE_c fun G => .int _) (simE_cb op_len (simA_cons (simE_var 0) simA_nil)) (simE_c fun G => .int _))))) (simS_ret (simE_c fun G => .bl _)) simS_next) (simS_seq (simS_for (simI_str (simE_var 0)) simG_name (simS_if (simT_test (simE_op op_notInX (simE_var 1) (simE_c fun G => .str _))) (simS_ret (simE_c fun G => .bl _)) simS_next)) (simS_ret (simE_c fun G => .bl _))))
def t_is_row (g : Ga) (E : XK) : TS := (tRet (tCB (rIsiT g.K) (tCons (tVar 0) (tCons (tTup (tCs g [(.ty "list"), (.ty "tuple")])) tNil))))
noncomputable def f_is_row : FS := (fRet (fIsiT [(.ty "list"), (.ty "tuple")] (fVar 0)))
@[irreducible] noncomputable def F_is_row : PF := fnOf [] 1 1 f_is_row
theorem un_is_row : F_is_row = fnOf [] 1 1 f_is_row := by rw [F_is_row]
theorem fl_is_row : ∀ as w, as.length = 1 → F_is_row as = some w → w.1.length = 1 := by rw [un_is_row]; exact fnOf_len
theorem sim_is_row {g : Ga} {E : XK} (K : KitC g) : SimS g (wOf E) [] (t_is_row g E) f_is_row := (simS_ret (simE_isiT K rfl (by simp) (by decide) (simE_var 0)))
end Sd.Pu
namespace Sd.Pu
open PySem PySem.Spec PyProof.Rows L2
def t_law_cell (g : Ga) (E : XK) : TS := (tSeq (tIfS (tTest (tOp rLt (tVar 1) (tCB (rLen2 g.K g.w) (tCons (tVar 0) tNil)))) (tRet (tOp (rIx2 g.K g.w) (tVar 0) (tVar 1))) tNext) (tRet (tOp (rAddX g.K) (tOp (rMulX g.K) (tC (.int 1009)) (tVar 1)) (tC (.int 5)))))
noncomputable def f_law_cell : FS := (fSeq (fIf (fTest (fOp (pCmp bLt) (fVar 1) (fCB pLen (fCons (fVar 0) fNil)))) (fRet (fOp pIx (fVar 0) (fVar 1))) fNext) (fRet (fOp pAdd (fOp pMul (fC (.int 1009)) (fVar 1)) (fC (.int 5)))))
@[irreducible] noncomputable def F_law_cell : PF := fnOf [] 2 2 f_law_cell
theorem un_law_cell : F_law_cell = fnOf [] 2 2 f_law_cell := by rw [F_law_cell]
theorem fl_law_cell : ∀ as w, as.length = 2 → F_law_cell as = some w → w.1.length = 2 := by rw [un_law_cell]; exact fnOf_len
theorem sim_law_cell {g : Ga} {E : XK}  : SimS g (wOf E) [] (t_law_cell g E) f_law_cell := (simS_seq (simS_if (simT_test (simE_op (op_cmp cLt) (simE_var 1) (simE_cb op_len (simA_cons (simE_var 0) simA_nil)))) (simS_ret (simE_op op_ix (simE_var 0) (simE_var 1))) simS_next) (simS_ret (simE_op op_addX (simE_op op_mulX (simE_c fun G => .int _) (simE_var 1)) (simE_c fun G => .int _))))
def t_law_pool (g : Ga) (E : XK) : TS := (tSeq (tAsg (tC (.int 0)) (gName 1)) (tSeq (tIfS (tTest (tOp rGe (tVar 0) (tOp rPow (tC (.int 10)) (tC (.int 18))))) (tAsg (tVar 0) (gName 1)) tNext) (tRet (tLst (tCons (tOp rMod (tCB rInt1 (tCons (tVar 0) tNil)) (tC (.int 2147483629))) (tCons (tVar 1) (tCons (tC (.int 0)) tNil)))))))
noncomputable def f_law_pool : FS := (fSeq (fAsg (fC (.int 0)) (fgName 1)) (fSeq (fIf (fTest (fOp (pCmp bGe) (fVar 0) (fOp pPow (fC (.int 10)) (fC (.int 18))))) (fAsg (fVar 0) (fgName 1)) fNext) (fRet (fLst (fCons (fOp pMod (fCB pInt1 (fCons (fVar 0) fNil)) (fC (.int 2147483629))) (fCons (fVar 1) (fCons (fC (.int 0)) fNil)))))))
@[irreducible] noncomputable def F_law_pool : PF := fnOf [] 2 1 f_law_pool
theorem un_law_pool : F_law_pool = fnOf [] 2 1 f_law_pool := by rw [F_law_pool]
theorem fl_law_pool : ∀ as w, as.length = 1 → F_law_pool as = some w → w.1.length = 1 := by rw [un_law_pool]; exact fnOf_len
theorem sim_law_pool {g : Ga} {E : XK}  : SimS g (wOf E) [] (t_law_pool g E) f_law_pool := (simS_seq (simS_asg (simE_c fun G => .int _) simG_name) (simS_seq (simS_if (simT_test (simE_op (op_cmp cGe) (simE_var 0) (simE_op Sd.op_pow (simE_c fun G => .int _) (simE_c fun G => .int _)))) (simS_asg (simE_var 0) simG_name) simS_next) (simS_ret (simE_lst (simA_cons (simE_op Sd.op_mod (simE_cb op_int1 (simA_cons (simE_var 0) simA_nil)) (simE_c fun G => .int _)) (simA_cons (simE_var 1) (simA_cons (simE_c fun G => .int _) simA_nil)))))))
def t_law_draw (g : Ga) (E : XK) : TS := (tSeq (tAsg (tOp (rAddX g.K) (tOp (rIx2 g.K g.w) (tVar 0) (tC (.int 2))) (tC (.int 1))) (gSub (tVar 0) (tC (.int 2)) rSetL)) (tSeq (tIfS (tTest (tOp rGt (tOp (rIx2 g.K g.w) (tVar 0) (tC (.int 1))) (tC (.int 0)))) (tSeq (tAsg (tOp rMod (tCB rInt1 (tCons (tOp (rIx2 g.K g.w) (tVar 0) (tC (.int 1))) tNil)) (tVar 1)) (gName 2)) (tSeq (tAsg (tOp rDiv (tOp (rIx2 g.K g.w) (tVar 0) (tC (.int 1))) (tVar 1)) (gSub (tVar 0) (tC (.int 1)) rSetL)) (tRet (tVar 2)))) tNext) (tSeq (tAsg (tOp rMod (tCB rInt1 (tCons (tOp (rMulX g.K) (tOp (rAddX g.K) (tOp (rAddX g.K) (tOp (rIx2 g.K g.w) (tVar 0) (tC (.int 0))) (tOp (rMulX g.K) (tC (.int 7919)) (tOp (rIx2 g.K g.w) (tVar 0) (tC (.int 2))))) (tC (.int 1))) (tC (.int 48271))) tNil)) (tC (.int 2147483647))) (gName 3)) (tSeq (tAsg (tOp rMod (tCB rInt1 (tCons (tOp (rMulX g.K) (tVar 3) (tOp (rAddX g.K) (tOp rDiv (tVar 3) (tC (.int 1009))) (tC (.int 69621)))) tNil)) (tC (.int 2147483647))) (gName 3)) (tSeq (tAsg (tOp rMod (tCB rInt1 (tCons (tOp (rMulX g.K) (tVar 3) (tOp (rAddX g.K) (tOp rDiv (tVar 3) (tC (.int 2003))) (tC (.int 40692)))) tNil)) (tC (.int 2147483399))) (gName 3)) (tRet (tOp rMod (tCB rInt1 (tCons (tOp rDiv (tVar 3) (tC (.int 16))) tNil)) (tVar 1))))))))
noncomputable def f_law_draw : FS := (fSeq (fAsg (fOp pAdd (fOp pIx (fVar 0) (fC (.int 2))) (fC (.int 1))) (fgSet 0 (fC (.int 2)))) (fSeq (fIf (fTest (fOp (pCmp bGt) (fOp pIx (fVar 0) (fC (.int 1))) (fC (.int 0)))) (fSeq (fAsg (fOp pMod (fCB pInt1 (fCons (fOp pIx (fVar 0) (fC (.int 1))) fNil)) (fVar 1)) (fgName 2)) (fSeq (fAsg (fOp pDiv (fOp pIx (fVar 0) (fC (.int 1))) (fVar 1)) (fgSet 0 (fC (.int 1)))) (fRet (fVar 2)))) fNext) (fSeq (fAsg (fOp pMod (fCB pInt1 (fCons (fOp pMul (fOp pAdd (fOp pAdd (fOp pIx (fVar 0) (fC (.int 0))) (fOp pMul (fC (.int 7919)) (fOp pIx (fVar 0) (fC (.int 2))))) (fC (.int 1))) (fC (.int 48271))) fNil)) (fC (.int 2147483647))) (fgName 3)) (fSeq (fAsg (fOp pMod (fCB pInt1 (fCons (fOp pMul (fVar 3) (fOp pAdd (fOp pDiv (fVar 3) (fC (.int 1009))) (fC (.int 69621)))) fNil)) (fC (.int 2147483647))) (fgName 3)) (fSeq (fAsg (fOp pMod (fCB pInt1 (fCons (fOp pMul (fVar 3) (fOp pAdd (fOp pDiv (fVar 3) (fC (.int 2003))) (fC (.int 40692)))) fNil)) (fC (.int 2147483399))) (fgName 3)) (fRet (fOp pMod (fCB pInt1 (fCons (fOp pDiv (fVar 3) (fC (.int 16))) fNil)) (fVar 1))))))))
@[irreducible] noncomputable def F_law_draw : PF := fnOf [0] 4 2 f_law_draw
theorem un_law_draw : F_law_draw = fnOf [0] 4 2 f_law_draw := by rw [F_law_draw]
theorem fl_law_draw : ∀ as w, as.length = 2 → F_law_draw as = some w → w.1.length = 2 := by rw [un_law_draw]; exact fnOf_len
theorem sim_law_draw {g : Ga} {E : XK}  : SimS g (wOf E) [0] (t_law_draw g E) f_law_draw := (simS_seq (simS_asg (simE_op op_addX (simE_op op_ix (simE_var 0) (simE_c fun G => .int _)) (simE_c fun G => .int _)) (simG_set (W := (wOf E)) (simE_c fun G => .int _))) (simS_seq (simS_if (simT_test (simE_op (op_cmp cGt) (simE_op op_ix (simE_var 0) (simE_c fun G => .int _)) (simE_c fun G => .int _))) (simS_seq (simS_asg (simE_op Sd.op_mod (simE_cb op_int1 (simA_cons (simE_op op_ix (simE_var 0) (simE_c fun G => .int _)) simA_nil)) (simE_var 1)) simG_name) (simS_seq (simS_asg (simE_op Sd.op_div (simE_op op_ix (simE_var 0) (simE_c fun G => .int _)) (simE_var 1)) (simG_set (W := (wOf E)) (simE_c fun G => .int _))) (simS_ret (simE_var 2)))) simS_next) (simS_seq (simS_asg (simE_op Sd.op_mod (simE_cb op_int1 (simA_cons (simE_op op_mulX (simE_op op_addX (simE_op op_addX (simE_op op_ix (simE_var 0) (simE_c fun G => .int _)) (simE_op op_mulX (simE_c fun G => .int _) (simE_op op_ix (simE_var 0) (simE_c fun G => .int _)))) (simE_c fun G => .int _)) (simE_c fun G => .int _)) simA_nil)) (simE_c fun G => .int _)) simG_name) (simS_seq (simS_asg (simE_op Sd.op_mod (simE_cb op_int1 (simA_cons (simE_op op_mulX (simE_var 3) (simE_op op_addX (simE_op Sd.op_div (simE_var 3) (simE_c fun G => .int _)) (simE_c fun G => .int _))) simA_nil)) (simE_c fun G => .int _)) simG_name) (simS_seq (simS_asg (simE_op Sd.op_mod (simE_cb op_int1 (simA_cons (simE_op op_mulX (simE_var 3) (simE_op op_addX (simE_op Sd.op_div (simE_var 3) (simE_c fun G => .int _)) (simE_c fun G => .int _))) simA_nil)) (simE_c fun G => .int _)) simG_name) (simS_ret (simE_op Sd.op_mod (simE_cb op_int1 (simA_cons (simE_op Sd.op_div (simE_var 3) (simE_c fun G => .int _)) simA_nil)) (simE_var 1))))))))
noncomputable def wc1_law_name : FT := (fTest (fOp (pCmp bGt) (fVar 2) (fC (.int 0))))
noncomputable def wb1_law_name : FS := (fSeq (fAsg (fOp pSub (fVar 2) (fC (.int 1))) (fgName 2)) (fSeq (fAsg (fOp pAdd (fOp pIx (fC (.str "abcdefghijklmnopqrstuvwxyz")) (fOp pMod (fCB pInt1 (fCons (fVar 2) fNil)) (fC (.int 26)))) (fVar 1)) (fgName 1)) (fAsg (fOp pDiv (fVar 2) (fC (.int 26))) (fgName 2))))
def t_law_name (g : Ga) (E : XK) : TS := (tSeq (tAsg (tC (.str "")) (gName 1)) (tSeq (tAsg (tOp (rAddX g.K) (tVar 0) (tC (.int 1))) (gName 2)) (tSeq (tWhile (tTest (tOp rGt (tVar 2) (tC (.int 0)))) (tSeq (tAsg (tOp rSub (tVar 2) (tC (.int 1))) (gName 2)) (tSeq (tAsg (tOp (rAddX g.K) (tOp (rIx2 g.K g.w) (tC (.str "abcdefghijklmnopqrstuvwxyz")) (tOp rMod (tCB rInt1 (tCons (tVar 2) tNil)) (tC (.int 26)))) (tVar 1)) (gName 1)) (tAsg (tOp rDiv (tVar 2) (tC (.int 26))) (gName 2))))) (tRet (tVar 1)))))
noncomputable def f_law_name : FS := (fSeq (fAsg (fC (.str "")) (fgName 1)) (fSeq (fAsg (fOp pAdd (fVar 0) (fC (.int 1))) (fgName 2)) (fSeq (fWhile bigN wc1_law_name wb1_law_name) (fRet (fVar 1)))))
@[irreducible] noncomputable def F_law_name : PF := fnOf [] 3 1 f_law_name
theorem un_law_name : F_law_name = fnOf [] 3 1 f_law_name := by rw [F_law_name]
theorem fl_law_name : ∀ as w, as.length = 1 → F_law_name as = some w → w.1.length = 1 := by rw [un_law_name]; exact fnOf_len
theorem sim_law_name {g : Ga} {E : XK}  : SimS g (wOf E) [] (t_law_name g E) f_law_name := (simS_seq (simS_asg (simE_c fun G => .str _) simG_name) (simS_seq (simS_asg (simE_op op_addX (simE_var 0) (simE_c fun G => .int _)) simG_name) (simS_seq (simS_while (simT_test (simE_op (op_cmp cGt) (simE_var 2) (simE_c fun G => .int _))) (simS_seq (simS_asg (simE_op Sd.op_sub (simE_var 2) (simE_c fun G => .int _)) simG_name) (simS_seq (simS_asg (simE_op op_addX (simE_op op_ix (simE_c fun G => .str _) (simE_op Sd.op_mod (simE_cb op_int1 (simA_cons (simE_var 2) simA_nil)) (simE_c fun G => .int _))) (simE_var 1)) simG_name) (simS_asg (simE_op Sd.op_div (simE_var 2) (simE_c fun G => .int _)) simG_name)))) (simS_ret (simE_var 1)))))
noncomputable def lb1_law_names : FS := (fIf (fTest (fOp pIn (fVar 4) (fVar 2))) (fAsg (fOp pMod (fCB pInt1 (fCons (fOp pAdd (fVar 4) (fC (.int 1))) fNil)) (fOp pPow (fC (.int 26)) (fC (.int 12)))) (fgName 4)) fNext)
noncomputable def lb2_law_names : FS := (fSeq (fAsg (fCall F_law_draw [true, false] [] (fCons (fVar 0) (fCons (fC (.int 26)) fNil))) (fgName 4)) (fSeq (fIf (fTest (fOp pEq (fCall F_law_draw [true, false] [] (fCons (fVar 0) (fCons (fC (.int 4)) fNil))) (fC (.int 0)))) (fAsg (fCall F_law_draw [true, false] [] (fCons (fVar 0) (fCons (fOp pPow (fC (.int 26)) (fC (.int 12))) fNil))) (fgName 4)) fNext) (fSeq (fFor (fiRng1 (fCons (fVar 3) fNil)) (fgName 5) lb1_law_names) (fDrop (fMut pAppend 2 (fCons (fVar 4) fNil))))))
noncomputable def ce1_law_names : FE := (fCall0 F_law_name [false] [] (fCons (fVar 4) fNil))
def t_law_names (g : Ga) (E : XK) : TS := (tSeq (tAsg (tLst tNil) (gName 2)) (tSeq (tFor (iRng1 (tCons (tVar 1) tNil)) (gName 3) (tSeq (tAsg (tCall (PSp g 2 F_law_draw) [] E (tCons (tVar 0) (tCons (tC (.int 26)) tNil))) (gName 4)) (tSeq (tIfS (tTest (tOp (rEqX g.K) (tCall (PSp g 2 F_law_draw) [] E (tCons (tVar 0) (tCons (tC (.int 4)) tNil))) (tC (.int 0)))) (tAsg (tCall (PSp g 2 F_law_draw) [] E (tCons (tVar 0) (tCons (tOp rPow (tC (.int 26)) (tC (.int 12))) tNil))) (gName 4)) tNext) (tSeq (tFor (iRng1 (tCons (tVar 3) tNil)) (gName 5) (tIfS (tTest (tOp (rInX g.K g.w) (tVar 4) (tVar 2))) (tAsg (tOp rMod (tCB rInt1 (tCons (tOp (rAddX g.K) (tVar 4) (tC (.int 1))) tNil)) (tOp rPow (tC (.int 26)) (tC (.int 12)))) (gName 4)) tNext)) (tDrop (tBM g.K "list" rApp (tVar 2) (tCons (tVar 4) tNil))))))) (tRet (tLc (iSeq2 g.K g.w (tVar 2)) (gName 4) tYes (tCall (PSp g 1 F_law_name) [] E0 (tCons (tVar 4) tNil)) [4]))))
noncomputable def f_law_names : FS := (fSeq (fAsg (fLst fNil) (fgName 2)) (fSeq (fFor (fiRng1 (fCons (fVar 1) fNil)) (fgName 3) lb2_law_names) (fRet (fLcO 2 6 (fgName 4) fYes ce1_law_names [4]))))
@[irreducible] noncomputable def F_law_names : PF := fnOf [0] 6 2 f_law_names
theorem un_law_names : F_law_names = fnOf [0] 6 2 f_law_names := by rw [F_law_names]
theorem fl_law_names : ∀ as w, as.length = 2 → F_law_names as = some w → w.1.length = 2 := by rw [un_law_names]; exact fnOf_len
theorem sim_law_names {g : Ga} {E : XK}  : SimS g (wOf E) [0] (t_law_names g E) f_law_names := (simS_seq (simS_asg (simE_lst simA_nil) simG_name) (simS_seq (simS_for (simI_rng1 (simA_cons (simE_var 1) simA_nil)) simG_name (simS_seq (simS_asg (simE_call (fun _ _ _ _ h => h) fl_law_draw RpL.none (by rfl) (simA_cons (simE_var 0) (simA_cons (simE_c fun G => .int _) simA_nil))) simG_name) (simS_seq (simS_if (simT_test (simE_op op_eqX (simE_call (fun _ _ _ _ h => h) fl_law_draw RpL.none (by rfl) (simA_cons (simE_var 0) (simA_cons (simE_c fun G => .int _) simA_nil))) (simE_c fun G => .int _))) (simS_asg (simE_call (fun _ _ _ _ h => h) fl_law_draw RpL.none (by rfl) (simA_cons (simE_var 0) (simA_cons (simE_op Sd.op_pow (simE_c fun G => .int _) (simE_c fun G => .int _)) simA_nil))) simG_name) simS_next) (simS_seq (simS_for (simI_rng1 (simA_cons (simE_var 3) simA_nil)) simG_name (simS_if (simT_test (simE_op op_inX (simE_var 4) (simE_var 2))) (simS_asg (simE_op Sd.op_mod (simE_cb op_int1 (simA_cons (simE_op op_addX (simE_var 4) (simE_c fun G => .int _)) simA_nil)) (simE_op Sd.op_pow (simE_c fun G => .int _) (simE_c fun G => .int _))) simG_name) simS_next)) (simS_drop (simE_mut mut_append (simA_cons (simE_var 4) simA_nil))))))) (simS_ret (simE_lcO (M' := [0, 1, 2, 3, 5]) (W' := (wOf E)) (by decide) (by decide) (by decide) simG_name simT_yes (simE_call0 (fun _ _ _ _ h => h) fl_law_name RpL.none (by rfl) (simA_cons (simE_var 4) simA_nil))))))
end Sd.Pu
namespace Sd.Pu
open PySem PySem.Spec PyProof.Rows L2
noncomputable def lb1_law_same (F : PF) : FS := (fIf (fNot (fTru (fCall F [false, false] [] (fCons (fOp pIx (fVar 0) (fVar 2)) (fCons (fOp pIx (fVar 1) (fVar 2)) fNil))))) (fRet (fC (.bl false))) fNext)
def t_law_same (g : Ga) (E : XK) (F : PF) : TS := (tSeq (tIfS (tTest (tOp rIsN (tVar 1) (tC .non))) (tRet (tOp rIsN (tVar 0) (tC .non))) tNext) (tSeq (tIfS (tTru2 g.K g.w (tCB (rIsi g.K) (tCons (tVar 1) (tCons (tC (.ty "bool")) tNil)))) (tRet (tAndV (tCB (rIsi g.K) (tCons (tVar 0) (tCons (tC (.ty "bool")) tNil))) (tOp (rEqX g.K) (tVar 0) (tVar 1)))) tNext) (tSeq (tIfS (tTru2 g.K g.w (tCB (rIsi g.K) (tCons (tVar 1) (tCons (tC (.ty "int")) tNil)))) (tRet (tAndV (tCB (rIsi g.K) (tCons (tVar 0) (tCons (tC (.ty "int")) tNil))) (tAndV (tNotV (tCB (rIsi g.K) (tCons (tVar 0) (tCons (tC (.ty "bool")) tNil)))) (tOp (rEqX g.K) (tVar 0) (tVar 1))))) tNext) (tSeq (tIfS (tTru2 g.K g.w (tCB (rIsi g.K) (tCons (tVar 1) (tCons (tC (.ty "str")) tNil)))) (tRet (tAndV (tCB (rIsi g.K) (tCons (tVar 0) (tCons (tC (.ty "str")) tNil))) (tOp (rEqX g.K) (tVar 0) (tVar 1)))) tNext) (tSeq (tIfS (tAnd (tTru2 g.K g.w (tCB (rIsi g.K) (tCons (tVar 1) (tCons (tC (.ty "list")) tNil)))) (tNot (tTru2 g.K g.w (tCB (rIsi g.K) (tCons (tVar 0) (tCons (tC (.ty "list")) tNil)))))) (tRet (tC (.bl false))) tNext) (tSeq (tIfS (tAnd (tTru2 g.K g.w (tCB (rIsi g.K) (tCons (tVar 1) (tCons (tC (.ty "tuple")) tNil)))) (tNot (tTru2 g.K g.w (tCB (rIsi g.K) (tCons (tVar 0) (tCons (tC (.ty "tuple")) tNil)))))) (tRet (tC (.bl false))) tNext) (tSeq (tIfS (tTru2 g.K g.w (tCB (rIsi g.K) (tCons (tVar 1) (tCons (tC (.ty "dict")) tNil)))) (tRet (tAndV (tCB (rIsi g.K) (tCons (tVar 0) (tCons (tC (.ty "dict")) tNil))) (tOp (rEqX g.K) (tVar 0) (tVar 1)))) tNext) (tSeq (tIfS (tTest (tOp (rNeX g.K) (tCB (rLen2 g.K g.w) (tCons (tVar 0) tNil)) (tCB (rLen2 g.K g.w) (tCons (tVar 1) tNil)))) (tRet (tC (.bl false))) tNext) (tSeq (tFor (iRng1 (tCons (tCB (rLen2 g.K g.w) (tCons (tVar 1) tNil)) tNil)) (gName 2) (tIfS (tNot (tTru2 g.K g.w (tCall (PSp g 2 F) [] E (tCons (tOp (rIx2 g.K g.w) (tVar 0) (tVar 2)) (tCons (tOp (rIx2 g.K g.w) (tVar 1) (tVar 2)) tNil))))) (tRet (tC (.bl false))) tNext)) (tRet (tC (.bl true))))))))))))
noncomputable def f_law_same (F : PF) : FS := (fSeq (fIf (fTest (fOp pIsN (fVar 1) (fC .non))) (fRet (fOp pIsN (fVar 0) (fC .non))) fNext) (fSeq (fIf (fTru (fCB pIsi (fCons (fVar 1) (fCons (fC (.ty "bool")) fNil)))) (fRet (fAndV (fCB pIsi (fCons (fVar 0) (fCons (fC (.ty "bool")) fNil))) (fOp pEq (fVar 0) (fVar 1)))) fNext) (fSeq (fIf (fTru (fCB pIsi (fCons (fVar 1) (fCons (fC (.ty "int")) fNil)))) (fRet (fAndV (fCB pIsi (fCons (fVar 0) (fCons (fC (.ty "int")) fNil))) (fAndV (fNotV (fCB pIsi (fCons (fVar 0) (fCons (fC (.ty "bool")) fNil)))) (fOp pEq (fVar 0) (fVar 1))))) fNext) (fSeq (fIf (fTru (fCB pIsi (fCons (fVar 1) (fCons (fC (.ty "str")) fNil)))) (fRet (fAndV (fCB pIsi (fCons (fVar 0) (fCons (fC (.ty "str")) fNil))) (fOp pEq (fVar 0) (fVar 1)))) fNext) (fSeq (fIf (fAnd (fTru (fCB pIsi (fCons (fVar 1) (fCons (fC (.ty "list")) fNil)))) (fNot (fTru (fCB pIsi (fCons (fVar 0) (fCons (fC (.ty "list")) fNil)))))) (fRet (fC (.bl false))) fNext) (fSeq (fIf (fAnd (fTru (fCB pIsi (fCons (fVar 1) (fCons (fC (.ty "tuple")) fNil)))) (fNot (fTru (fCB pIsi (fCons (fVar 0) (fCons (fC (.ty "tuple")) fNil)))))) (fRet (fC (.bl false))) fNext) (fSeq (fIf (fTru (fCB pIsi (fCons (fVar 1) (fCons (fC (.ty "dict")) fNil)))) (fRet (fAndV (fCB pIsi (fCons (fVar 0) (fCons (fC (.ty "dict")) fNil))) (fOp pEq (fVar 0) (fVar 1)))) fNext) (fSeq (fIf (fTest (fOp pNe (fCB pLen (fCons (fVar 0) fNil)) (fCB pLen (fCons (fVar 1) fNil)))) (fRet (fC (.bl false))) fNext) (fSeq (fFor (fiRng1 (fCons (fCB pLen (fCons (fVar 1) fNil)) fNil)) (fgName 2) (lb1_law_same F)) (fRet (fC (.bl true))))))))))))
@[irreducible] noncomputable def F_law_same (m : Nat) : PF := Nat.rec (fun _ => none) (fun _ F => fnOf [] 3 2 (f_law_same F)) m
theorem same_succ (m : Nat) : F_law_same (m + 1) = fnOf [] 3 2 (f_law_same (F_law_same m)) := by unfold F_law_same; rfl
theorem same_zero : F_law_same 0 = fun _ => none := by unfold F_law_same; rfl
theorem fl_law_same : ∀ (m : Nat) as w, as.length = 2 → F_law_same m as = some w → w.1.length = 2
  | 0, _, _, _, h => by rw [same_zero] at h; cases h
  | m + 1, as, w, l, h => by rw [same_succ] at h; exact fnOf_len _ _ l h
theorem sim_law_same {g : Ga} {E : XK} {F : PF} (fl : ∀ as w, as.length = 2 → F as = some w → w.1.length = 2) (K : KitC g) : SimS g (wOf E) [] (t_law_same g E F) (f_law_same F) := (simS_seq (simS_if (simT_test (simE_op op_isN (simE_var 1) (simE_c fun G => .non))) (simS_ret (simE_op op_isN (simE_var 0) (simE_c fun G => .non))) simS_next) (simS_seq (simS_if (simT_tru (simE_cb (op_isi K) (simA_cons (simE_var 1) (simA_cons (simE_c fun G => .ty _) simA_nil)))) (simS_ret (simE_and (simE_cb (op_isi K) (simA_cons (simE_var 0) (simA_cons (simE_c fun G => .ty _) simA_nil))) (simE_op op_eqX (simE_var 0) (simE_var 1)))) simS_next) (simS_seq (simS_if (simT_tru (simE_cb (op_isi K) (simA_cons (simE_var 1) (simA_cons (simE_c fun G => .ty _) simA_nil)))) (simS_ret (simE_and (simE_cb (op_isi K) (simA_cons (simE_var 0) (simA_cons (simE_c fun G => .ty _) simA_nil))) (simE_and (simE_not (simE_cb (op_isi K) (simA_cons (simE_var 0) (simA_cons (simE_c fun G => .ty _) simA_nil)))) (simE_op op_eqX (simE_var 0) (simE_var 1))))) simS_next) (simS_seq (simS_if (simT_tru (simE_cb (op_isi K) (simA_cons (simE_var 1) (simA_cons (simE_c fun G => .ty _) simA_nil)))) (simS_ret (simE_and (simE_cb (op_isi K) (simA_cons (simE_var 0) (simA_cons (simE_c fun G => .ty _) simA_nil))) (simE_op op_eqX (simE_var 0) (simE_var 1)))) simS_next) (simS_seq (simS_if (simT_and (simT_tru (simE_cb (op_isi K) (simA_cons (simE_var 1) (simA_cons (simE_c fun G => .ty _) simA_nil)))) (simT_not (simT_tru (simE_cb (op_isi K) (simA_cons (simE_var 0) (simA_cons (simE_c fun G => .ty _) simA_nil)))))) (simS_ret (simE_c fun G => .bl _)) simS_next) (simS_seq (simS_if (simT_and (simT_tru (simE_cb (op_isi K) (simA_cons (simE_var 1) (simA_cons (simE_c fun G => .ty _) simA_nil)))) (simT_not (simT_tru (simE_cb (op_isi K) (simA_cons (simE_var 0) (simA_cons (simE_c fun G => .ty _) simA_nil)))))) (simS_ret (simE_c fun G => .bl _)) simS_next) (simS_seq (simS_if (simT_tru (simE_cb (op_isi K) (simA_cons (simE_var 1) (simA_cons (simE_c fun G => .ty _) simA_nil)))) (simS_ret (simE_and (simE_cb (op_isi K) (simA_cons (simE_var 0) (simA_cons (simE_c fun G => .ty _) simA_nil))) (simE_op op_eqX (simE_var 0) (simE_var 1)))) simS_next) (simS_seq (simS_if (simT_test (simE_op op_neX (simE_cb op_len (simA_cons (simE_var 0) simA_nil)) (simE_cb op_len (simA_cons (simE_var 1) simA_nil)))) (simS_ret (simE_c fun G => .bl _)) simS_next) (simS_seq (simS_for (simI_rng1 (simA_cons (simE_cb op_len (simA_cons (simE_var 1) simA_nil)) simA_nil)) simG_name (simS_if (simT_not (simT_tru (simE_call (fun _ _ _ _ h => h) fl RpL.none (by rfl) (simA_cons (simE_op op_ix (simE_var 0) (simE_var 2)) (simA_cons (simE_op op_ix (simE_var 1) (simE_var 2)) simA_nil))))) (simS_ret (simE_c fun G => .bl _)) simS_next)) (simS_ret (simE_c fun G => .bl _)))))))))))
end Sd.Pu
namespace Sd.Pu
open PySem PySem.Spec PyProof.Rows L2
/-- the run ends, with such an outcome -/
def Runs {α : Type} (x : Option α) (Q : α → Prop) : Prop := ∃ a, x = some a ∧ Q a
theorem Runs.mono {α : Type} {x : Option α} {P Q : α → Prop} (h : Runs x P) (k : ∀ a, P a → Q a) : Runs x Q := by
  obtain ⟨a, e, p⟩ := h
  exact ⟨a, e, k a p⟩
theorem Runs.eq {α : Type} {x : Option α} {a : α} (h : Runs x (fun o => o = a)) : x = some a := by
  obtain ⟨b, h1, h2⟩ := h
  rw [h1, h2]
theorem rL {α : Type} {x : Option α} {o : α} {Q : α → Prop} (h : x = some o) (k : Q o) : Runs x Q := ⟨o, h, k⟩
theorem mp {α β : Type} {f : α → β} {o : Option α} {x : α} (h : o = some x) : o.map f = some (f x) := by rw [h]; rfl
theorem szLt {n : Nat} (h : n < 16777216) : n < PySem.sizeLine := by rw [PySem.sizeLine_eq]; exact h
theorem szLe {n : Nat} (h : n ≤ 16777216) : n ≤ PySem.sizeLine := by rw [PySem.sizeLine_eq]; exact h
theorem tLt {a b : Int} (h : a < b) : bLt a b = true := by rw [bLt_d]; exact decide_eq_true h
theorem nLt {a b : Int} (h : ¬ a < b) : bLt a b = false := by rw [bLt_d]; exact decide_eq_false h
theorem tLe {a b : Int} (h : a ≤ b) : bLe a b = true := by rw [bLe_d]; exact decide_eq_true h
theorem eq_int (a b : Int) : eqP (.int a) (.int b) = decide (a = b) := by
  rw [eqP]; rfl
theorem eq_str (a b : PySem.Str) : eqP (.str a) (.str b) = decide (a = b) := by
  rw [eqP]
  by_cases h : a = b
  · subst h; simp
  · simp [h]
theorem tEqI {a b : Int} (h : a = b) : eqP (.int a) (.int b) = true := by rw [eq_int]; exact decide_eq_true h
theorem nEqI {a b : Int} (h : ¬ a = b) : eqP (.int a) (.int b) = false := by rw [eq_int]; exact decide_eq_false h
theorem tD {p : Prop} [Decidable p] (h : p) : decide p = true := decide_eq_true h
theorem bNotF {b : Bool} (h : b = true) : (!b) = false := by rw [h]; rfl
section
variable {i j : Int} {a b : Str} {xs ys : List PV} {x y z : PV} {c : Bool}
theorem catS (h : a.length + b.length ≤ sizeLine) : pAdd (.str a) (.str b) = some (.fz (.str (a ++ b))) := if_pos h
theorem catL (h : xs.length + ys.length ≤ sizeLine) : pAdd (.lst xs) (.lst ys) = some (.ow (.lst (xs ++ ys))) := if_pos h
theorem divI (h : 0 < j) (k : j.natAbs.log2 < 9000) : pDiv (.int i) (.int j) = some (.fz (.int (i / j))) := if_pos ⟨h, k⟩
theorem modI (h : 0 < j) : pMod (.int i) (.int j) = some (.fz (.int (i % j))) := if_pos h
theorem mulI (h : (-(2 ^ 64) < i ∧ i < 2 ^ 64) ∨ (-(2 ^ 64) < j ∧ j < 2 ^ 64)) : pMul (.int i) (.int j) = some (.fz (.int (i * j))) := if_pos h
theorem lenS (h : a.length ≤ sizeLine) : pLen [.str a] = some (.fz (.int a.length)) := if_pos h
theorem ixL (h : atI xs i = some x) : pIx (.lst xs) (.int i) = some (.fz x) := by show (atI xs i).map _ = _; rw [h]; rfl
theorem ixZ {ns : List Int} {n : Int} (h : atI ns i = some n) : pIx (.scr ns) (.int i) = some (.fz (.int n)) := by show (atI ns i).map _ = _; rw [h]; rfl
theorem ixS {k : Nat} (hl : a.length ≤ sizeLine) (h : atI a.cps.toList i = some k) : pIx (.str a) (.int i) = some (.fz (.str ⟨#[k]⟩)) := by show (if a.length ≤ sizeLine then (atI a.cps.toList i).map _ else none) = _; rw [if_pos hl, h]; rfl
theorem inI (h : pInB x y = some c) : pIn x y = some (.fz (.bl c)) := by unfold pIn; rw [h]; rfl
theorem ninI (h : pInB x y = some c) : pNotIn x y = some (.fz (.bl (!c))) := by unfold pNotIn; rw [h]; rfl
theorem appI (h : ys.length < sizeLine) : pAppend ys [x] = some (ys ++ [x], .fz .non) := if_pos h
theorem insI (h : ys.length < sizeLine) (h0 : 0 ≤ i) (h1 : i < 1000000) : pInsert ys [.int i, x] = some (ys.take i.toNat ++ [x] ++ ys.drop i.toNat, .fz .non) := if_pos ⟨h, h0, by omega⟩
end
theorem s0_ {a0 s : SV} {l : List SV} : List.set (a0 :: l) 0 s = s :: l := rfl
theorem s1_ {a0 a1 s : SV} {l : List SV} : List.set (a0 :: a1 :: l) 1 s = a0 :: s :: l := rfl
theorem s2_ {a0 a1 a2 s : SV} {l : List SV} : List.set (a0 :: a1 :: a2 :: l) 2 s = a0 :: a1 :: s :: l := rfl
theorem s3_ {a0 a1 a2 a3 s : SV} {l : List SV} : List.set (a0 :: a1 :: a2 :: a3 :: l) 3 s = a0 :: a1 :: a2 :: s :: l := rfl
theorem s4_ {a0 a1 a2 a3 a4 s : SV} {l : List SV} : List.set (a0 :: a1 :: a2 :: a3 :: a4 :: l) 4 s = a0 :: a1 :: a2 :: a3 :: s :: l := rfl
theorem s5_ {a0 a1 a2 a3 a4 a5 s : SV} {l : List SV} : List.set (a0 :: a1 :: a2 :: a3 :: a4 :: a5 :: l) 5 s = a0 :: a1 :: a2 :: a3 :: a4 :: s :: l := rfl
theorem s6_ {a0 a1 a2 a3 a4 a5 a6 s : SV} {l : List SV} : List.set (a0 :: a1 :: a2 :: a3 :: a4 :: a5 :: a6 :: l) 6 s = a0 :: a1 :: a2 :: a3 :: a4 :: a5 :: s :: l := rfl
theorem s7_ {a0 a1 a2 a3 a4 a5 a6 a7 s : SV} {l : List SV} : List.set (a0 :: a1 :: a2 :: a3 :: a4 :: a5 :: a6 :: a7 :: l) 7 s = a0 :: a1 :: a2 :: a3 :: a4 :: a5 :: a6 :: s :: l := rfl
theorem s8_ {a0 a1 a2 a3 a4 a5 a6 a7 a8 s : SV} {l : List SV} : List.set (a0 :: a1 :: a2 :: a3 :: a4 :: a5 :: a6 :: a7 :: a8 :: l) 8 s = a0 :: a1 :: a2 :: a3 :: a4 :: a5 :: a6 :: a7 :: s :: l := rfl
theorem s9_ {a0 a1 a2 a3 a4 a5 a6 a7 a8 a9 s : SV} {l : List SV} : List.set (a0 :: a1 :: a2 :: a3 :: a4 :: a5 :: a6 :: a7 :: a8 :: a9 :: l) 9 s = a0 :: a1 :: a2 :: a3 :: a4 :: a5 :: a6 :: a7 :: a8 :: s :: l := rfl
theorem s10_ {a0 a1 a2 a3 a4 a5 a6 a7 a8 a9 a10 s : SV} {l : List SV} : List.set (a0 :: a1 :: a2 :: a3 :: a4 :: a5 :: a6 :: a7 :: a8 :: a9 :: a10 :: l) 10 s = a0 :: a1 :: a2 :: a3 :: a4 :: a5 :: a6 :: a7 :: a8 :: a9 :: s :: l := rfl
theorem s11_ {a0 a1 a2 a3 a4 a5 a6 a7 a8 a9 a10 a11 s : SV} {l : List SV} : List.set (a0 :: a1 :: a2 :: a3 :: a4 :: a5 :: a6 :: a7 :: a8 :: a9 :: a10 :: a11 :: l) 11 s = a0 :: a1 :: a2 :: a3 :: a4 :: a5 :: a6 :: a7 :: a8 :: a9 :: a10 :: s :: l := rfl
theorem s12_ {a0 a1 a2 a3 a4 a5 a6 a7 a8 a9 a10 a11 a12 s : SV} {l : List SV} : List.set (a0 :: a1 :: a2 :: a3 :: a4 :: a5 :: a6 :: a7 :: a8 :: a9 :: a10 :: a11 :: a12 :: l) 12 s = a0 :: a1 :: a2 :: a3 :: a4 :: a5 :: a6 :: a7 :: a8 :: a9 :: a10 :: a11 :: s :: l := rfl
theorem R0_ : List.replicate 0 SV.no = [] := rfl
theorem R1_ : List.replicate 1 SV.no = [.no] := rfl
theorem R2_ : List.replicate 2 SV.no = [.no, .no] := rfl
theorem R4_ : List.replicate 4 SV.no = [.no, .no, .no, .no] := rfl
theorem R6_ : List.replicate 6 SV.no = [.no, .no, .no, .no, .no, .no] := rfl
theorem R12_ : List.replicate 12 SV.no = [.no, .no, .no, .no, .no, .no, .no, .no, .no, .no, .no, .no] := rfl
theorem A1_ {a0 : SV} {l : List SV} : [a0] ++ l = a0 :: l := rfl
theorem A2_ {a0 a1 : SV} {l : List SV} : [a0, a1] ++ l = a0 :: a1 :: l := rfl
theorem A3_ {a0 a1 a2 : SV} {l : List SV} : [a0, a1, a2] ++ l = a0 :: a1 :: a2 :: l := rfl
section
variable {e e' e1 e2 : Ev} {rs : List EV} {x : PV} {xs ys : List PV} {s : SV} {i j n v : Nat} {md : List Bool} {as as' : List SV} {c : Str} {fs : List (Str × PV)} {a : SV}
theorem yV : frz e (.vl (.fz x)) = some (e, x) := rfl
theorem yO : frz e (.vl (.ow (.lst ys))) = some (e, .lst ys) := rfl
theorem yI : frz e (.vl (.ow (.ins c fs))) = some (e, .ins c fs) := rfl
theorem yBM {kvs : List (PV × PV)} (h0 : e[i]? = some (.ow (.map kvs))) (hs : e.set i (.fz (.map kvs)) = e') : frz e (.bo i) = some (e', .map kvs) := by subst hs; show (scF e[i]?).map _ = _; rw [h0]; rfl
theorem yBO (h0 : e[i]? = some (.ow (.lst ys))) (hs : e.set i (.fz (.lst ys)) = e') : frz e (.bo i) = some (e', .lst ys) := by subst hs; show (scF e[i]?).map _ = _; rw [h0]; rfl
theorem yBI (h0 : e[i]? = some (.ow (.ins c fs))) (hs : e.set i (.fz (.ins c fs)) = e') : frz e (.bo i) = some (e', .ins c fs) := by subst hs; show (scF e[i]?).map _ = _; rw [h0]; rfl
theorem zN : frzs e [] = some (e, []) := rfl
theorem z_ {r : EV} (h0 : frz e r = some (e', x)) (h : frzs e' rs = some (e1, xs)) : frzs e (r :: rs) = some (e1, x :: xs) := by rw [frzs, h0]; show (frzs e' rs).map _ = _; rw [h]; rfl
theorem pN : pass [] e [] = some (e, []) := rfl
theorem p_ {r : EV} (h0 : frz e r = some (e', x)) (h : pass md e' rs = some (e1, as)) : pass (false :: md) e (r :: rs) = some (e1, .fz x :: as) := by
  cases r <;> (rw [pass, h0]; show (pass md e' rs).map _ = _; rw [h]; rfl)
theorem pM (h0 : e[i]? = some (.ow x)) (hs : e.set i .no = e') (h : pass md e' rs = some (e1, as)) : pass (true :: md) e (.bo i :: rs) = some (e1, .ow x :: as) := by subst hs; rw [pass, h0]; show (pass md _ rs).map _ = _; rw [h]; rfl
theorem pMV (h : pass md e rs = some (e1, as)) : pass (true :: md) e (.vl s :: rs) = some (e1, s :: as) := by rw [pass]; rw [h]; rfl
theorem bA : ∀ {md : List Bool} {rs : List EV} {e : Ev} {as : List SV}, md.all (fun b => !b) = true → back md rs e as = e
  | [], _, _, _, _ => by simp [back]
  | true :: _, _, _, _, h => by cases h
  | false :: md, [], e, as, h => by simp [back]
  | false :: md, r :: rs, e, [], h => by simp [back]
  | false :: md, r :: rs, e, a :: as, h => by rw [back]; exact bA h; simp
theorem bT (hs : e.set i a = e') (h : back md rs e' as = e2) : back (true :: md) (.bo i :: rs) e (a :: as) = e2 := by subst hs; rw [back]; exact h
theorem bV (h : back md rs e as = e2) : back (true :: md) (.vl s :: rs) e (a :: as) = e2 := by rw [back]; exact h; simp
theorem rN {e0 : Ev} : rest e0 [] e = e := rfl
theorem rC {e0 : Ev} {vs : List Nat} (h0 : e0[v]? = some s) (hs : e.set v s = e') (h : rest e0 vs e' = e2) : rest e0 (v :: vs) e = e2 := by
  subst hs
  rw [rest, List.getD_eq_getElem?_getD, h0]; exact h
theorem wN : wipeE e [] = e := rfl
theorem wC {vs : List Nat} (h : wipeE e vs = e1) (hs : e1.set v .no = e2) : wipeE e (v :: vs) = e2 := by rw [wipeE, h]; exact hs
theorem gV (h : Nat.blt i e.length = true) (hs : e.set i s = e') : fgName i (.vl s) e = some e' := by subst hs; exact if_pos (Nat.le_of_ble_eq_true h)
theorem gN : fgNil [] e = some e := rfl
theorem gC {f : FG} {gs : FGs} (h1 : f (.vl (.fz x)) e = some e1) (h2 : gs xs e1 = some e2) : fgCons f gs (x :: xs) e = some e2 := by
  show (f (.vl (.fz x)) e).bind _ = _
  rw [h1, Option.bind_some]; exact h2
theorem gT {r : EV} {gs : FGs} (hc : cn e r = some (.tup xs)) (hl : Nat.beq xs.length n = true) (h : gs xs e = some e1) : fgTup n gs r e = some e1 := by
  unfold fgTup
  rw [hc]
  dsimp only
  rw [if_pos (Nat.eq_of_beq_eq_true hl)]; exact h
theorem tV : retV e (.vl s) = some (.rt e s) := rfl
end
section
variable {e e1 e2 e3 : Ev} {r r1 r2 r3 : EV} {rs : List EV} {x y : PV} {xs ys : List PV} {s : SV} {fa fb fc fe : FE} {fr : FA} {ft fu : FT} {b : Bool} {Q : O EV → Prop} {T : O Bool → Prop} {As : O (List EV) → Prop} {i : Nat}
def unQ (p : PV → Option SV) (Q : O EV → Prop) : O EV → Prop
  | .ok e r => Runs ((cn e r).bind fun x => (p x).map fun s => O.ok e (.vl s)) Q
  | .er e x => Q (.er e x)
theorem rUn {p : PV → Option SV} (h : Runs (fa e) (unQ p Q)) : Runs (fUn p fa e) Q := by
  obtain ⟨o, h1, h2⟩ := h
  unfold fUn bnd
  rw [h1]
  cases o with
  | ok e r => exact h2
  | er e x => exact ⟨_, rfl, h2⟩
theorem kUn {p : PV → Option SV} (hc : cn e r = some x) (hp : p x = some s) (k : Q (.ok e (.vl s))) : unQ p Q (.ok e r) := ⟨_, by rw [hc, Option.bind_some, hp]; rfl, k⟩
def opQ2 (p : PV → PV → Option SV) (r1 : EV) (Q : O EV → Prop) : O EV → Prop
  | .ok e r => Runs ((cn e r1).bind fun x => (cn e r).bind fun y => (p x y).map fun s => O.ok e (.vl s)) Q
  | .er e x => Q (.er e x)
def opQ1 (p : PV → PV → Option SV) (fb : FE) (Q : O EV → Prop) : O EV → Prop
  | .ok e r => Runs (fb e) (opQ2 p r Q)
  | .er e x => Q (.er e x)
theorem rOp {p : PV → PV → Option SV} (h : Runs (fa e) (opQ1 p fb Q)) : Runs (fOp p fa fb e) Q := by
  obtain ⟨o, h1, h2⟩ := h
  unfold fOp bnd
  rw [h1]
  cases o with
  | ok e r =>
    obtain ⟨o2, h3, h4⟩ := h2
    dsimp only
    rw [h3]
    cases o2 with
    | ok e r => exact h4
    | er e x => exact ⟨_, rfl, h4⟩
  | er e x => exact ⟨_, rfl, h2⟩
theorem kOp1 {p : PV → PV → Option SV} (h : Runs (fb e) (opQ2 p r Q)) : opQ1 p fb Q (.ok e r) := h
theorem kOp2 {p : PV → PV → Option SV} (hx : cn e r1 = some x) (hy : cn e r = some y) (hp : p x y = some s) (k : Q (.ok e (.vl s))) : opQ2 p r1 Q (.ok e r) := ⟨_, by rw [hx, Option.bind_some, hy, Option.bind_some, hp]; rfl, k⟩
def consQ2 (r : EV) (Q : O (List EV) → Prop) : O (List EV) → Prop
  | .ok e rs => Q (.ok e (r :: rs))
  | .er e x => Q (.er e x)
def consQ1 (fr : FA) (Q : O (List EV) → Prop) : O EV → Prop
  | .ok e r => Runs (fr e) (consQ2 r Q)
  | .er e x => Q (.er e x)
theorem rCons (h : Runs (fa e) (consQ1 fr As)) : Runs (fCons fa fr e) As := by
  obtain ⟨o, h1, h2⟩ := h
  unfold fCons bnd
  rw [h1]
  cases o with
  | ok e r =>
    obtain ⟨o2, h3, h4⟩ := h2
    dsimp only
    rw [h3]
    cases o2 with
    | ok e r => exact ⟨_, rfl, h4⟩
    | er e x => exact ⟨_, rfl, h4⟩
  | er e x => exact ⟨_, rfl, h2⟩
theorem kCons1 (h : Runs (fr e) (consQ2 r As)) : consQ1 fr As (.ok e r) := h
theorem kCons2 (h : As (.ok e (r :: rs))) : consQ2 r As (.ok e rs) := h
def cbQ (p : List PV → Option SV) (Q : O EV → Prop) : O (List EV) → Prop
  | .ok e rs => Runs ((cns e rs).bind fun xs => (p xs).map fun s => O.ok e (.vl s)) Q
  | .er e x => Q (.er e x)
theorem rCB {p : List PV → Option SV} (h : Runs (fr e) (cbQ p Q)) : Runs (fCB p fr e) Q := by
  obtain ⟨o, h1, h2⟩ := h
  unfold fCB bnd
  rw [h1]
  cases o with
  | ok e r => exact h2
  | er e x => exact ⟨_, rfl, h2⟩
theorem kCB {p : List PV → Option SV} (hc : cns e rs = some xs) (hp : p xs = some s) (k : Q (.ok e (.vl s))) : cbQ p Q (.ok e rs) := ⟨_, by rw [hc, Option.bind_some, hp]; rfl, k⟩
def tupQ (Q : O EV → Prop) : O (List EV) → Prop
  | .ok e rs => Runs ((frzs e rs).bind fun q => if q.2.length ≤ sizeLine then some (O.ok q.1 (.vl (.fz (.tup q.2)))) else none) Q
  | .er e x => Q (.er e x)
def lstQ (Q : O EV → Prop) : O (List EV) → Prop
  | .ok e rs => Runs ((frzs e rs).bind fun q => if q.2.length ≤ sizeLine then some (O.ok q.1 (.vl (.ow (.lst q.2)))) else none) Q
  | .er e x => Q (.er e x)
theorem rTup (h : Runs (fr e) (tupQ Q)) : Runs (fTup fr e) Q := by
  obtain ⟨o, h1, h2⟩ := h
  unfold fTup bnd
  rw [h1]
  cases o with
  | ok e r => exact h2
  | er e x => exact ⟨_, rfl, h2⟩
theorem rLst (h : Runs (fr e) (lstQ Q)) : Runs (fLst fr e) Q := by
  obtain ⟨o, h1, h2⟩ := h
  unfold fLst bnd
  rw [h1]
  cases o with
  | ok e r => exact h2
  | er e x => exact ⟨_, rfl, h2⟩
theorem small {n : Nat} (h : Nat.ble n 1000 = true) : n ≤ sizeLine := by
  have := Nat.le_of_ble_eq_true h
  rw [sizeLine_eq]; omega
theorem kTup (hq : frzs e rs = some (e1, xs)) (hl : Nat.ble xs.length 1000 = true) (k : Q (.ok e1 (.vl (.fz (.tup xs))))) : tupQ Q (.ok e rs) := ⟨_, by rw [hq, Option.bind_some, if_pos (small hl)], k⟩
theorem kLst (hq : frzs e rs = some (e1, xs)) (hl : Nat.ble xs.length 1000 = true) (k : Q (.ok e1 (.vl (.ow (.lst xs))))) : lstQ Q (.ok e rs) := ⟨_, by rw [hq, Option.bind_some, if_pos (small hl)], k⟩
def testQ (T : O Bool → Prop) : O EV → Prop
  | .ok e r => Runs ((cn e r).bind fun x => (isBl x).map fun b => O.ok e b) T
  | .er e x => T (.er e x)
def truQ (T : O Bool → Prop) : O EV → Prop
  | .ok e r => Runs ((cn e r).bind fun x => (truth x).map fun b => O.ok e b) T
  | .er e x => T (.er e x)
theorem rTest (h : Runs (fa e) (testQ T)) : Runs (fTest fa e) T := by
  obtain ⟨o, h1, h2⟩ := h
  unfold fTest bnd
  rw [h1]
  cases o with
  | ok e r => exact h2
  | er e x => exact ⟨_, rfl, h2⟩
theorem rTru (h : Runs (fa e) (truQ T)) : Runs (fTru fa e) T := by
  obtain ⟨o, h1, h2⟩ := h
  unfold fTru bnd
  rw [h1]
  cases o with
  | ok e r => exact h2
  | er e x => exact ⟨_, rfl, h2⟩
theorem kTest (hc : cn e r = some (.bl b)) (k : T (.ok e b)) : testQ T (.ok e r) := ⟨_, by rw [hc]; rfl, k⟩
theorem kTru (hc : cn e r = some x) (hb : truth x = some b) (k : T (.ok e b)) : truQ T (.ok e r) := ⟨_, by rw [hc, Option.bind_some, hb]; rfl, k⟩
def notQ (T : O Bool → Prop) : O Bool → Prop
  | .ok e b => T (.ok e (!b))
  | .er e x => T (.er e x)
theorem rNot (h : Runs (ft e) (notQ T)) : Runs (fNot ft e) T := by
  obtain ⟨o, h1, h2⟩ := h
  unfold fNot bnd
  rw [h1]
  cases o with
  | ok e r => exact ⟨_, rfl, h2⟩
  | er e x => exact ⟨_, rfl, h2⟩
theorem kNotT (hb : b = true) (k : T (.ok e false)) : notQ T (.ok e b) := by subst hb; exact k
def andQ (fu : FT) (T : O Bool → Prop) : O Bool → Prop
  | .ok e b => Runs (if b = true then fu e else some (O.ok e false)) T
  | .er e x => T (.er e x)
def orQ (fu : FT) (T : O Bool → Prop) : O Bool → Prop
  | .ok e b => Runs (if b = true then some (O.ok e true) else fu e) T
  | .er e x => T (.er e x)
theorem rAnd (h : Runs (ft e) (andQ fu T)) : Runs (fAnd ft fu e) T := by
  obtain ⟨o, h1, h2⟩ := h
  unfold fAnd bnd
  rw [h1]
  cases o with
  | ok e r => exact h2
  | er e x => exact ⟨_, rfl, h2⟩
theorem rOr (h : Runs (ft e) (orQ fu T)) : Runs (fOr ft fu e) T := by
  obtain ⟨o, h1, h2⟩ := h
  unfold fOr bnd
  rw [h1]
  cases o with
  | ok e r => exact h2
  | er e x => exact ⟨_, rfl, h2⟩
theorem kAndT (hb : b = true) (k : Runs (fu e) T) : andQ fu T (.ok e b) := by subst hb; exact k
theorem kAndF (hb : b = false) (k : T (.ok e false)) : andQ fu T (.ok e b) := by subst hb; exact ⟨_, rfl, k⟩
theorem kOrF (hb : b = false) (k : Runs (fu e) T) : orQ fu T (.ok e b) := by subst hb; exact k
def andVQ (fb : FE) (Q : O EV → Prop) : O Bool → Prop
  | .ok e b => Runs (if b = true then fb e else some (O.ok e (.vl (.fz (.bl false))))) Q
  | .er e x => Q (.er e x)
def notVQ (Q : O EV → Prop) : O Bool → Prop
  | .ok e b => Q (.ok e (.vl (.fz (.bl (!b)))))
  | .er e x => Q (.er e x)
theorem rAndV (h : Runs (fTest fa e) (andVQ fb Q)) : Runs (fAndV fa fb e) Q := by
  obtain ⟨o, h1, h2⟩ := h
  unfold fAndV bnd
  rw [h1]
  cases o with
  | ok e r => exact h2
  | er e x => exact ⟨_, rfl, h2⟩
theorem rNotV (h : Runs (fTest fa e) (notVQ Q)) : Runs (fNotV fa e) Q := by
  obtain ⟨o, h1, h2⟩ := h
  unfold fNotV bnd
  rw [h1]
  cases o with
  | ok e r => exact ⟨_, rfl, h2⟩
  | er e x => exact ⟨_, rfl, h2⟩
theorem kAndVT (hb : b = true) (k : Runs (fb e) Q) : andVQ fb Q (.ok e b) := by subst hb; exact k
theorem kAndVF (hb : b = false) (k : Q (.ok e (.vl (.fz (.bl false))))) : andVQ fb Q (.ok e b) := by subst hb; exact ⟨_, rfl, k⟩
theorem kNotV (k : Q (.ok e (.vl (.fz (.bl (!b)))))) : notVQ Q (.ok e b) := k
def chQ3 (p' : Int → Int → Bool) (j : Int) (Q : O EV → Prop) : O EV → Prop
  | .ok e r => Runs (match cn e r with
    | some (.int k) => some (O.ok e (.vl (.fz (.bl (p' j k)))))
    | _ => none) Q
  | .er e x => Q (.er e x)
def chQ2 (p p' : Int → Int → Bool) (fc : FE) (r1 : EV) (Q : O EV → Prop) : O EV → Prop
  | .ok e r => ∃ i j, cn e r1 = some (.int i) ∧ cn e r = some (.int j) ∧ ((p i j = true ∧ Runs (fc e) (chQ3 p' j Q)) ∨ (p i j = false ∧ Q (.ok e (.vl (.fz (.bl false))))))
  | .er e x => Q (.er e x)
def chQ1 (p p' : Int → Int → Bool) (fb fc : FE) (Q : O EV → Prop) : O EV → Prop
  | .ok e r => Runs (fb e) (chQ2 p p' fc r Q)
  | .er e x => Q (.er e x)
theorem rCh {p p' : Int → Int → Bool} (h : Runs (fa e) (chQ1 p p' fb fc Q)) : Runs (fChain p p' fa fb fc e) Q := by
  obtain ⟨o, h1, h2⟩ := h
  unfold fChain bnd
  rw [h1]
  cases o with
  | ok e r =>
    obtain ⟨o2, h3, h4⟩ := h2
    dsimp only
    rw [h3]
    cases o2 with
    | ok e' r' =>
      obtain ⟨i, j, c1, c2, h5⟩ := h4
      dsimp only
      rw [c1, c2]
      dsimp only
      rcases h5 with ⟨hp, o3, h6, h7⟩ | ⟨hp, h6⟩
      · rw [if_pos hp, h6]
        cases o3 with
        | ok e r => exact h7
        | er e x => exact ⟨_, rfl, h7⟩
      · rw [if_neg (by rw [hp]; exact Bool.false_ne_true)]; exact ⟨_, rfl, h6⟩
    | er e x => exact ⟨_, rfl, h4⟩
  | er e x => exact ⟨_, rfl, h2⟩
theorem kCh1 {p p' : Int → Int → Bool} (h : Runs (fb e) (chQ2 p p' fc r Q)) : chQ1 p p' fb fc Q (.ok e r) := h
theorem kCh2T {p p' : Int → Int → Bool} {i j : Int} (h1 : cn e r1 = some (.int i)) (h2 : cn e r = some (.int j)) (hp : p i j = true) (k : Runs (fc e) (chQ3 p' j Q)) : chQ2 p p' fc r1 Q (.ok e r) := ⟨i, j, h1, h2, .inl ⟨hp, k⟩⟩
theorem kCh3 {p' : Int → Int → Bool} {j k : Int} (h : cn e r = some (.int k)) (q : Q (.ok e (.vl (.fz (.bl (p' j k)))))) : chQ3 p' j Q (.ok e r) := ⟨_, by rw [h], q⟩
def partQ (Z : O (Option Int) → Prop) : O EV → Prop
  | .ok e r => ∃ i, cn e r = some (.int i) ∧ Z (.ok e (some i))
  | .er e x => Z (.er e x)
theorem rPart {Z : O (Option Int) → Prop} (h : Runs (fa e) (partQ Z)) : Runs (fPart (some fa) e) Z := by
  obtain ⟨o, h1, h2⟩ := h
  unfold fPart bnd
  dsimp only
  rw [h1]
  cases o with
  | ok e r =>
    obtain ⟨i, c, z⟩ := h2
    dsimp only
    rw [c]; exact ⟨_, rfl, z⟩
  | er e x => exact ⟨_, rfl, h2⟩
theorem kPart {Z : O (Option Int) → Prop} {i : Int} (h : cn e r = some (.int i)) (k : Z (.ok e (some i))) : partQ Z (.ok e r) := ⟨i, h, k⟩
theorem rPart0 {Z : O (Option Int) → Prop} (h : Z (.ok e none)) : Runs (fPart none e) Z := ⟨_, rfl, h⟩
def slQ3 (p : PV → Option Int → Option Int → Option SV) (r : EV) (lo : Option Int) (Q : O EV → Prop) : O (Option Int) → Prop
  | .ok e hi => Runs ((cn e r).bind fun x => (p x lo hi).map fun s => O.ok e (.vl s)) Q
  | .er e x => Q (.er e x)
def slQ2 (p : PV → Option Int → Option Int → Option SV) (fh : Option FE) (r : EV) (Q : O EV → Prop) : O (Option Int) → Prop
  | .ok e lo => Runs (fPart fh e) (slQ3 p r lo Q)
  | .er e x => Q (.er e x)
def slQ1 (p : PV → Option Int → Option Int → Option SV) (fl fh : Option FE) (Q : O EV → Prop) : O EV → Prop
  | .ok e r => Runs (fPart fl e) (slQ2 p fh r Q)
  | .er e x => Q (.er e x)
theorem rSl {p : PV → Option Int → Option Int → Option SV} {fl fh : Option FE} (h : Runs (fa e) (slQ1 p fl fh Q)) : Runs (fSl p fa fl fh e) Q := by
  obtain ⟨o, h1, h2⟩ := h
  unfold fSl bnd
  rw [h1]
  cases o with
  | ok e r =>
    obtain ⟨o2, h3, h4⟩ := h2
    dsimp only
    rw [h3]
    cases o2 with
    | ok e r =>
      obtain ⟨o3, h5, h6⟩ := h4
      dsimp only
      rw [h5]
      cases o3 with
      | ok e r => exact h6
      | er e x => exact ⟨_, rfl, h6⟩
    | er e x => exact ⟨_, rfl, h4⟩
  | er e x => exact ⟨_, rfl, h2⟩
theorem kSl1 {p : PV → Option Int → Option Int → Option SV} {fl fh : Option FE} (h : Runs (fPart fl e) (slQ2 p fh r Q)) : slQ1 p fl fh Q (.ok e r) := h
theorem kSl2 {p : PV → Option Int → Option Int → Option SV} {fh : Option FE} {lo : Option Int} (h : Runs (fPart fh e) (slQ3 p r lo Q)) : slQ2 p fh r Q (.ok e lo) := h
theorem kSl3 {p : PV → Option Int → Option Int → Option SV} {lo hi : Option Int} (hc : cn e r = some x) (hp : p x lo hi = some s) (k : Q (.ok e (.vl s))) : slQ3 p r lo Q (.ok e hi) := ⟨_, by rw [hc, Option.bind_some, hp]; rfl, k⟩
def callQ (F : PF) (md : List Bool) (dxs : List PV) (Q : O EV → Prop) : O (List EV) → Prop
  | .ok e rs => Runs ((pass md e rs).bind fun q => (F (q.2 ++ dxs.map SV.fz)).map fun w => resE (back md rs q.1 w.1) w.2) Q
  | .er e x => Q (.er e x)
theorem rCall {F : PF} {md : List Bool} {dxs : List PV} (h : Runs (fr e) (callQ F md dxs Q)) : Runs (fCall F md dxs fr e) Q := by
  obtain ⟨o, h1, h2⟩ := h
  unfold fCall bnd
  rw [h1]
  cases o with
  | ok e r => exact h2
  | er e x => exact ⟨_, rfl, h2⟩
theorem kCall {F : PF} {md : List Bool} {dxs : List PV} {as as' : List SV} (hp : pass md e rs = some (e1, as)) (hF : F (as ++ dxs.map SV.fz) = some (as', .ok s)) (hb : back md rs e1 as' = e2) (k : Q (.ok e2 (.vl s))) : callQ F md dxs Q (.ok e rs) := by subst hb; exact ⟨_, by rw [hp, Option.bind_some, hF]; rfl, k⟩
def call0Q (F : PF) (md : List Bool) (dxs : List PV) (Q : O EV → Prop) : O (List EV) → Prop
  | .ok e rs => Runs (noEr ((pass md e rs).bind fun q => (F (q.2 ++ dxs.map SV.fz)).map fun w => resE (back md rs q.1 w.1) w.2)) Q
  | .er e x => Q (.er e x)
theorem rCall0 {F : PF} {md : List Bool} {dxs : List PV} (h : Runs (fr e) (call0Q F md dxs Q)) : Runs (fCall0 F md dxs fr e) Q := by
  obtain ⟨o, h1, h2⟩ := h
  unfold fCall0 bnd
  rw [h1]
  cases o with
  | ok e r => exact h2
  | er e x => exact ⟨_, rfl, h2⟩
theorem kCall0 {F : PF} {md : List Bool} {dxs : List PV} {as as' : List SV} (hp : pass md e rs = some (e1, as)) (hF : F (as ++ dxs.map SV.fz) = some (as', .ok s)) (hb : back md rs e1 as' = e2) (k : Q (.ok e2 (.vl s))) : call0Q F md dxs Q (.ok e rs) := by subst hb; exact ⟨_, by rw [hp, Option.bind_some, hF]; rfl, k⟩
def methQ2 (F : PF) (md : List Bool) (dxs : List PV) (r : EV) (Q : O EV → Prop) : O (List EV) → Prop
  | .ok e rs => Runs ((pass md e (r :: rs)).bind fun q => (F (q.2 ++ dxs.map SV.fz)).map fun w => resE (back md (r :: rs) q.1 w.1) w.2) Q
  | .er e x => Q (.er e x)
def methQ1 (F : PF) (md : List Bool) (dxs : List PV) (ok : PV → Bool) (fr : FA) (Q : O EV → Prop) : O EV → Prop
  | .ok e r => recv ok (cn e r) = true ∧ Runs (fr e) (methQ2 F md dxs r Q)
  | .er e x => Q (.er e x)
theorem rMeth {F : PF} {md : List Bool} {dxs : List PV} {ok : PV → Bool} (h : Runs (fe e) (methQ1 F md dxs ok fr Q)) : Runs (fMeth F md dxs ok fe fr e) Q := by
  obtain ⟨o, h1, h2⟩ := h
  unfold fMeth bnd
  rw [h1]
  cases o with
  | ok e r =>
    obtain ⟨c, o2, h3, h4⟩ := h2
    dsimp only
    rw [if_pos c, h3]
    cases o2 with
    | ok e r => exact h4
    | er e x => exact ⟨_, rfl, h4⟩
  | er e x => exact ⟨_, rfl, h2⟩
theorem kMeth1 {F : PF} {md : List Bool} {dxs : List PV} {ok : PV → Bool} (c : recv ok (cn e r) = true) (k : Runs (fr e) (methQ2 F md dxs r Q)) : methQ1 F md dxs ok fr Q (.ok e r) := ⟨c, k⟩
theorem kMeth2 {F : PF} {md : List Bool} {dxs : List PV} {as as' : List SV} (hp : pass md e (r :: rs) = some (e1, as)) (hF : F (as ++ dxs.map SV.fz) = some (as', .ok s)) (hb : back md (r :: rs) e1 as' = e2) (k : Q (.ok e2 (.vl s))) : methQ2 F md dxs r Q (.ok e rs) := by subst hb; exact ⟨_, by rw [hp, Option.bind_some, hF]; rfl, k⟩
def mutQ (p : List PV → List PV → Option (List PV × SV)) (i : Nat) (Q : O EV → Prop) : O (List EV) → Prop
  | .ok e rs => Runs ((frzs e rs).bind fun q => (ownLst q.1[i]?).bind fun ys => (p ys q.2).map fun w => O.ok (q.1.set i (.ow (.lst w.1))) (.vl w.2)) Q
  | .er e x => Q (.er e x)
theorem rMut {p : List PV → List PV → Option (List PV × SV)} (ho : ownLst e[i]? = some ys) (h : Runs (fr e) (mutQ p i Q)) : Runs (fMut p i fr e) Q := by
  obtain ⟨o, h1, h2⟩ := h
  unfold fMut
  rw [ho, Option.bind_some]
  unfold bnd
  rw [h1]
  cases o with
  | ok e r => exact h2
  | er e x => exact ⟨_, rfl, h2⟩
theorem kMut {p : List PV → List PV → Option (List PV × SV)} {zs : List PV} (hq : frzs e rs = some (e1, xs)) (ho : ownLst e1[i]? = some ys) (hp : p ys xs = some (zs, s)) (hs : e1.set i (.ow (.lst zs)) = e2) (k : Q (.ok e2 (.vl s))) : mutQ p i Q (.ok e rs) := by subst hs; exact ⟨_, by rw [hq, Option.bind_some, ho, Option.bind_some, hp]; rfl, k⟩
def eqOQ (C : Str) (F : PF) (Q : O EV → Prop) : O (List EV) → Prop
  | .ok e rs => ∃ e1 x y as b, frzs e rs = some (e1, [x, y]) ∧ eqOk C x y = true ∧ F [.fz x, .fz y] = some (as, .ok (.fz (.bl b))) ∧ Q (.ok e1 (.vl (.fz (.bl b))))
  | .er e x => Q (.er e x)
theorem rEqW {C : Str} {F : PF} (h : Runs (fCons fa (fCons fb fNil) e) (eqOQ C F Q)) : Runs (fEqO C F fa fb e) Q := by
  obtain ⟨o, h1, h2⟩ := h
  unfold fEqO bnd
  rw [h1]
  cases o with
  | ok e r =>
    obtain ⟨e1, x, y, as, b, h3, h4, h5, q⟩ := h2
    dsimp only
    rw [h3, Option.bind_some]
    dsimp only
    rw [if_pos h4, h5]; exact ⟨_, rfl, q⟩
  | er e x => exact ⟨_, rfl, h2⟩
theorem kEqO {C : Str} {F : PF} {as : List SV} (hq : frzs e rs = some (e1, [x, y])) (ho : eqOk C x y = true) (hF : F [.fz x, .fz y] = some (as, .ok (.fz (.bl b)))) (k : Q (.ok e1 (.vl (.fz (.bl b))))) : eqOQ C F Q (.ok e rs) := ⟨e1, x, y, as, b, hq, ho, hF, k⟩
end
section
variable {e e1 e2 : Ev} {r : EV} {rs : List EV} {x : PV} {xs : List PV} {fe : FE} {fr : FA} {I : O (List PV) → Prop}
def seqOf : PV → Option (List PV)
  | .lst xs => some xs
  | .tup xs => some xs
  | .scr ns => some (ns.map PV.int)
  | .map kvs => some (kvs.map (·.1))
  | _ => none
def iSeqQ (I : O (List PV) → Prop) : O EV → Prop
  | .ok e r => ∃ e1 x xs, frz e r = some (e1, x) ∧ seqOf x = some xs ∧ I (.ok e1 xs)
  | .er e x => I (.er e x)
theorem riSeq (h : Runs (fe e) (iSeqQ I)) : Runs (fiSeq fe e) I := by
  obtain ⟨o, h1, h2⟩ := h
  unfold fiSeq bnd
  rw [h1]
  cases o with
  | ok e r =>
    obtain ⟨e1, x, xs, h3, h4, q⟩ := h2
    dsimp only
    rw [h3, Option.bind_some]
    cases x <;> first | (cases h4; exact ⟨_, rfl, q⟩) | cases h4
  | er e x => exact ⟨_, rfl, h2⟩
theorem kiSeq (h1 : frz e r = some (e1, x)) (h2 : seqOf x = some xs) (k : I (.ok e1 xs)) : iSeqQ I (.ok e r) := ⟨e1, x, xs, h1, h2, k⟩
def iRng1Q (I : O (List PV) → Prop) : O (List EV) → Prop
  | .ok e rs => ∃ j, cns e rs = some [.int j] ∧ rngOk j ∧ I (.ok e (rngF 0 j.toNat))
  | .er e x => I (.er e x)
theorem riRng1 (h : Runs (fr e) (iRng1Q I)) : Runs (fiRng1 fr e) I := by
  obtain ⟨o, h1, h2⟩ := h
  unfold fiRng1 bnd
  rw [h1]
  cases o with
  | ok e r =>
    obtain ⟨j, h3, h4, q⟩ := h2
    dsimp only
    rw [h3]
    dsimp only
    rw [if_pos h4]; exact ⟨_, rfl, q⟩
  | er e x => exact ⟨_, rfl, h2⟩
theorem kiRng1 {j : Int} (h : cns e rs = some [.int j]) (h0 : -1000000 ≤ j) (h1 : j ≤ 1000000000) (k : I (.ok e (rngF 0 j.toNat))) : iRng1Q I (.ok e rs) := ⟨j, h, ⟨by omega, by omega⟩, k⟩
def iStrQ (I : O (List PV) → Prop) : O EV → Prop
  | .ok e r => ∃ z, cn e r = some (.str z) ∧ I (.ok e (strF z))
  | .er e x => I (.er e x)
theorem riStr (h : Runs (fe e) (iStrQ I)) : Runs (fiStr fe e) I := by
  obtain ⟨o, h1, h2⟩ := h
  unfold fiStr bnd
  rw [h1]
  cases o with
  | ok e r =>
    obtain ⟨z, h3, q⟩ := h2
    dsimp only
    rw [h3]; exact ⟨_, rfl, q⟩
  | er e x => exact ⟨_, rfl, h2⟩
theorem kiStr {z : Str} (h : cn e r = some (.str z)) (k : I (.ok e (strF z))) : iStrQ I (.ok e r) := ⟨z, h, k⟩
end
section
variable {e e1 e2 : Ev} {r : EV} {x : PV} {xs : List PV} {fe : FE} {ft ft1 : FT} {fg fg1 : FG} {fi fi1 : FI} {vs vs1 : List Nat} {n i : Nat} {b : Bool} {Q : O EV → Prop}
/-- behind a comprehension -/
def lcE (e : Ev) (vs : List Nat) (Q : O EV → Prop) : Ev × List PV → Prop
  | (e', acc) => Q (.ok (rest e vs e') (.vl (.ow (.lst acc))))
theorem kLcE {e' : Ev} {acc : List PV} (h : rest e vs e' = e2) (k : Q (.ok e2 (.vl (.ow (.lst acc))))) : lcE e vs Q (e', acc) := by subst h; exact k
def lcOE (i : Nat) (ys : List PV) (e : Ev) (vs : List Nat) (Q : O EV → Prop) : Ev × List PV → Prop
  | (e', acc) => Q (.ok ((rest e vs e').set i (.ow (.lst ys))) (.vl (.ow (.lst acc))))
theorem kLcOE {ys : List PV} {e' : Ev} {acc : List PV} (h : rest e vs e' = e2) (hs : e2.set i (.ow (.lst ys)) = e1) (k : Q (.ok e1 (.vl (.ow (.lst acc))))) : lcOE i ys e vs Q (e', acc) := by subst h hs; exact k
def lcQ (n : Nat) (fg : FG) (ft : FT) (fe : FE) (vs : List Nat) (Q : O EV → Prop) : O (List PV) → Prop
  | .ok e xs => e.length = n ∧ Runs (lcLoop fg ft fe vs xs (wipeE e vs) []) (lcE e vs Q)
  | .er e x => Q (.er e x)
theorem rLc (h : Runs (fi e) (lcQ n fg ft fe vs Q)) : Runs (fLc n fi fg ft fe vs e) Q := by
  obtain ⟨o, h1, h2⟩ := h
  unfold fLc bnd
  rw [h1]
  cases o with
  | ok e r =>
    obtain ⟨hl, q, h3, h4⟩ := h2
    dsimp only
    rw [if_pos hl, h3]; exact ⟨_, rfl, h4⟩
  | er e x => exact ⟨_, rfl, h2⟩
theorem kLc (hl : e.length = n) (hw : wipeE e vs = e1) (k : Runs (lcLoop fg ft fe vs xs e1 []) (lcE e vs Q)) : lcQ n fg ft fe vs Q (.ok e xs) := by subst hw; exact ⟨hl, k⟩
theorem rLcO (ho : e[i]? = some (.ow (.lst xs))) (hl : e.length = n) (hs : e.set i .no = e1) (hw : wipeE e1 vs = e2) (h : Runs (lcLoop fg ft fe vs xs e2 []) (lcOE i xs e1 vs Q)) : Runs (fLcO i n fg ft fe vs e) Q := by
  subst hs hw
  obtain ⟨q, h1, h2⟩ := h
  unfold fLcO
  rw [ho]
  dsimp only
  rw [if_pos hl, h1]; exact ⟨_, rfl, h2⟩
theorem rLcF (ho : e[i]? = some (.fz x)) (h : Runs (fLc n (fiSeq (fVar i)) fg ft fe vs e) Q) : Runs (fLcO i n fg ft fe vs e) Q := by
  unfold fLcO
  rw [ho]; exact h
/-- one turn of a comprehension -/
def lcStep (fg : FG) (ft : FT) (fe : FE) (x : PV) (e : Ev) : Option (Ev × Option PV) := (fg (.vl (.fz x)) e).bind fun e1 => match ft e1 with
  | some (.ok e2 true) => (match fe e2 with
    | some (.ok e3 r) => (frz e3 r).map fun q => (q.1, some q.2)
    | _ => none)
  | some (.ok e2 false) => some (e2, none)
  | _ => none
def stQ2 (Z : Ev × Option PV → Prop) : O EV → Prop
  | .ok e r => Runs ((frz e r).map fun q => (q.1, some q.2)) Z
  | .er _ _ => False
def stQ1 (fe : FE) (Z : Ev × Option PV → Prop) : O Bool → Prop
  | .ok e true => Runs (fe e) (stQ2 Z)
  | .ok e false => Z (e, none)
  | .er _ _ => False
theorem rSt {Z : Ev × Option PV → Prop} (hg : fg (.vl (.fz x)) e = some e1) (h : Runs (ft e1) (stQ1 fe Z)) : Runs (lcStep fg ft fe x e) Z := by
  obtain ⟨o, h1, h2⟩ := h
  unfold lcStep
  rw [hg, Option.bind_some, h1]
  cases o with
  | ok e b =>
    cases b with
    | false => exact ⟨_, rfl, h2⟩
    | true =>
      obtain ⟨o2, h3, h4⟩ := h2
      dsimp only
      rw [h3]
      cases o2 with
      | ok e r => exact h4
      | er e x => exact h4.elim
  | er e x => exact h2.elim
theorem kStT {Z : Ev × Option PV → Prop} (hb : b = true) (k : Runs (fe e) (stQ2 Z)) : stQ1 fe Z (.ok e b) := by subst hb; exact k
theorem kStF {Z : Ev × Option PV → Prop} (hb : b = false) (k : Z (e, none)) : stQ1 fe Z (.ok e b) := by subst hb; exact k
theorem kSt2 {Z : Ev × Option PV → Prop} (h : frz e r = some (e1, x)) (k : Z (e1, some x)) : stQ2 Z (.ok e r) := ⟨_, by rw [h]; rfl, k⟩
theorem rBd {α β : Type} {o : Option α} {a : α} {f : α → Option β} {Z : β → Prop} (h : o = some a) (k : Runs (f a) Z) : Runs (o.bind f) Z := by rw [h]; exact k
end
section
variable {e e1 e2 : Ev} {r : EV} {rs : List EV} {x y : PV} {xs ys : List PV} {s : SV} {fe : FE} {fr : FA} {ft : FT} {fg : FG} {fi : FI} {a c : FS} {b : Bool} {S : OS → Prop} {i : Nat} {o : OS}
def seqQ (c : FS) (S : OS → Prop) : OS → Prop
  | .nx e => Runs (c e) S
  | .rt e s => S (.rt e s)
  | .bk e => S (.bk e)
  | .ct e => S (.ct e)
  | .er e x => S (.er e x)
theorem rSeq (h : Runs (a e) (seqQ c S)) : Runs (fSeq a c e) S := by
  obtain ⟨o, h1, h2⟩ := h
  unfold fSeq
  rw [h1]
  cases o with
  | nx e => exact h2
  | rt e s => exact ⟨_, rfl, h2⟩
  | bk e => exact ⟨_, rfl, h2⟩
  | ct e => exact ⟨_, rfl, h2⟩
  | er e x => exact ⟨_, rfl, h2⟩
def dropQ (S : OS → Prop) : O EV → Prop
  | .ok e _ => S (.nx e)
  | .er e x => S (.er e x)
theorem rDrop (h : Runs (fe e) (dropQ S)) : Runs (fDrop fe e) S := by
  obtain ⟨o, h1, h2⟩ := h
  unfold fDrop bndS
  rw [h1]
  cases o with
  | ok e r => exact ⟨_, rfl, h2⟩
  | er e x => exact ⟨_, rfl, h2⟩
theorem kDrop (k : S (.nx e)) : dropQ S (.ok e r) := k
def asgQ (fg : FG) (S : OS → Prop) : O EV → Prop
  | .ok e r => ∃ e1, fg r e = some e1 ∧ S (.nx e1)
  | .er e x => S (.er e x)
theorem rAsg (h : Runs (fe e) (asgQ fg S)) : Runs (fAsg fe fg e) S := by
  obtain ⟨o, h1, h2⟩ := h
  unfold fAsg bndS
  rw [h1]
  cases o with
  | ok e r =>
    obtain ⟨e1, h3, q⟩ := h2
    exact ⟨_, by dsimp only; rw [h3]; rfl, q⟩
  | er e x => exact ⟨_, rfl, h2⟩
theorem kAsg (hg : fg r e = some e1) (k : S (.nx e1)) : asgQ fg S (.ok e r) := ⟨e1, hg, k⟩
def retQ (S : OS → Prop) : O EV → Prop
  | .ok e r => Runs (retV e r) S
  | .er e x => S (.er e x)
theorem rRet (h : Runs (fe e) (retQ S)) : Runs (fRet fe e) S := by
  obtain ⟨o, h1, h2⟩ := h
  unfold fRet bndS
  rw [h1]
  cases o with
  | ok e r => exact h2
  | er e x => exact ⟨_, rfl, h2⟩
theorem kRet (h : retV e r = some o) (k : S o) : retQ S (.ok e r) := ⟨o, h, k⟩
def ifQ (a c : FS) (S : OS → Prop) : O Bool → Prop
  | .ok e b => Runs (if b = true then a e else c e) S
  | .er e x => S (.er e x)
theorem rIf (h : Runs (ft e) (ifQ a c S)) : Runs (fIf ft a c e) S := by
  obtain ⟨o, h1, h2⟩ := h
  unfold fIf bndS
  rw [h1]
  cases o with
  | ok e r => exact h2
  | er e x => exact ⟨_, rfl, h2⟩
theorem kIfT (hb : b = true) (k : Runs (a e) S) : ifQ a c S (.ok e b) := by subst hb; exact k
theorem kIfF (hb : b = false) (k : Runs (c e) S) : ifQ a c S (.ok e b) := by subst hb; exact k
def forQ (fg : FG) (a : FS) (S : OS → Prop) : O (List PV) → Prop
  | .ok e xs => Runs (loopS fg a xs e) S
  | .er e x => S (.er e x)
theorem rFor (h : Runs (fi e) (forQ fg a S)) : Runs (fFor fi fg a e) S := by
  obtain ⟨o, h1, h2⟩ := h
  unfold fFor bndS
  rw [h1]
  cases o with
  | ok e r => exact h2
  | er e x => exact ⟨_, rfl, h2⟩
theorem kFor (k : Runs (loopS fg a xs e) S) : forQ fg a S (.ok e xs) := k
def fldQ (i : Nat) (f : Str) (S : OS → Prop) : O EV → Prop
  | .ok e r => ∃ e1 x w, frz e r = some (e1, x) ∧ ownIns e1[i]? = some w ∧ (f ∈ fieldsOf w.1 ∧ w.2.length < 1000) ∧ S (.nx (e1.set i (.ow (.ins w.1 (putP f x w.2)))))
  | .er e x => S (.er e x)
theorem rFld {f : Str} (h : Runs (fe e) (fldQ i f S)) : Runs (fFld i f fe e) S := by
  obtain ⟨o, h1, h2⟩ := h
  unfold fFld bndS
  rw [h1]
  cases o with
  | ok e r =>
    obtain ⟨e1, x, w, h3, h4, h5, q⟩ := h2
    exact ⟨_, by dsimp only; rw [h3, Option.bind_some, h4, Option.bind_some, if_pos h5], q⟩
  | er e x => exact ⟨_, rfl, h2⟩
theorem kFld {f cl : Str} {fs gs : List (Str × PV)} (h1 : frz e r = some (e1, x)) (h2 : ownIns e1[i]? = some (cl, fs)) (h3 : decide (f ∈ fieldsOf cl) = true) (h4 : Nat.ble fs.length 20 = true) (h5 : putP f x fs = gs) (hs : e1.set i (.ow (.ins cl gs)) = e2) (k : S (.nx e2)) : fldQ i f S (.ok e r) := by subst h5 hs; exact ⟨e1, x, (cl, fs), h1, h2, ⟨of_decide_eq_true h3, by have := Nat.le_of_ble_eq_true h4; show fs.length < 1000; omega⟩, k⟩
def augQ (p : Int → Int → Int) (i : Nat) (m : Int) (S : OS → Prop) : O EV → Prop
  | .ok e r => ∃ n, cn e r = some (.int n) ∧ i < e.length ∧ S (.nx (e.set i (.fz (.int (p m n)))))
  | .er e x => S (.er e x)
theorem rAug {p : Int → Int → Int} {m : Int} (hi : e[i]? = some (.fz (.int m))) (h : Runs (fe e) (augQ p i m S)) : Runs (fAug p i fe e) S := by
  obtain ⟨o, h1, h2⟩ := h
  unfold fAug
  rw [hi]
  unfold bndS
  dsimp only
  rw [h1]
  cases o with
  | ok e r =>
    obtain ⟨n, h3, h4, q⟩ := h2
    exact ⟨_, by dsimp only; rw [h3]; dsimp only; rw [if_pos h4], q⟩
  | er e x => exact ⟨_, rfl, h2⟩
theorem kAug {p : Int → Int → Int} {m n : Int} (h1 : cn e r = some (.int n)) (h2 : Nat.blt i e.length = true) (hs : e.set i (.fz (.int (p m n))) = e1) (k : S (.nx e1)) : augQ p i m S (.ok e r) := by subst hs; exact ⟨n, h1, Nat.le_of_ble_eq_true h2, k⟩
def fnQ (M : List Nat) (n : Nat) (Z : List SV × RS → Prop) : OS → Prop
  | .nx e => Z (maskF M 0 n e, .ok (.fz .non))
  | .rt e s => Z (maskF M 0 n e, .ok s)
  | .er e x => Z (maskF M 0 n e, .er x)
  | _ => False
theorem rFn {M : List Nat} {n k : Nat} {as pad : List SV} {Z : List SV × RS → Prop} (h1 : List.replicate (n - k) SV.no = pad) (h2 : as ++ pad = e) (h : Runs (a e) (fnQ M k Z)) : Runs (fnOf M n k a as) Z := by
  subst h1 h2
  obtain ⟨o, h1, h2⟩ := h
  unfold fnOf
  rw [h1]
  cases o with
  | nx e => exact ⟨_, rfl, h2⟩
  | rt e s => exact ⟨_, rfl, h2⟩
  | er e x => exact ⟨_, rfl, h2⟩
  | bk e => exact h2.elim
  | ct e => exact h2.elim
end
end Sd.Pu
namespace Sd.Pu
open PySem PySem.Spec PyProof.Rows L2
end Sd.Pu
namespace Sd
open PySem PySem.Spec PyProof.Rows L2
section
variable {g : Ga} {W : WX} {M : List Nat}
def ownMap : Option SV → Option (List (PV × PV))
  | some (.ow (.map kvs)) => some kvs
  | _ => none
def fgSetM (i : Nat) (fi : FE) : FG := fun r e => (frz e r).bind fun q => (ownMap q.1[i]?).bind fun _ => match fi q.1 with
  | some (.ok e2 ri) => (frz e2 ri).bind fun p => (keyP p.2).bind fun k => (ownMap p.1[i]?).bind fun kvs => if kvs.length < sizeLine then some (p.1.set i (.ow (.map (putM kvs p.2 k q.2)))) else none
  | _ => none
end
end Sd
namespace Sd
open PySem PySem.Spec PyProof.Rows L2
section
variable {g : Ga} {W : WX} {M : List Nat}
def fDisp1 (fk fv : FE) : FE := fun e => bnd (fk e) fun e1 r1 => bnd (fv e1) fun e2 r2 => (frzs e2 [r1, r2]).bind fun q => match q.2 with
  | [kx, x] => (keyP kx).map fun _ => .ok q.1 (.vl (.ow (.map [(kx, x)])))
  | _ => none
end
end Sd
namespace Sd
open PySem PySem.Spec PyProof.Rows L2
section
variable {g : Ga} {W : WX} {M : List Nat}
def lookO (kvs : List (PV × List PV)) (k : NestedKey) : Option (List PV) := (kvs.find? fun p => decide (nkOf p.1 = some k)).map (·.2)
def appO (kvs : List (PV × List PV)) (k : NestedKey) (y : PV) : List (PV × List PV) := kvs.map fun p => if nkOf p.1 = some k then (p.1, p.2 ++ [y]) else p
theorem OwM.look {G H : Hp} (k : NestedKey) : ∀ {kvs : List (PV × List PV)} {es : List NE} {B : List Addr}, OwM g G H es B kvs → (∃ xs p l vs, lookO kvs k = some xs ∧ atKey es k = some p ∧ p.2 = .ref l ∧ l ∈ B ∧ H l = some (.lst vs) ∧ RpL g G vs xs) ∨ (lookO kvs k = none ∧ atKey es k = none)
  | [], es, B, h => by
    obtain ⟨rfl, _⟩ := h
    exact .inr ⟨rfl, rfl⟩
  | (kx, xs) :: kvs, es, B, h => by
    obtain ⟨nk, ka, l, vs, es', B', rfl, rfl, r1, r2, r3, r4, r5, r6⟩ := h
    by_cases q : nk = k
    · subst q
      refine .inl ⟨xs, (ka, .ref l), l, vs, ?_, ?_, rfl, List.mem_cons_self, r4, r5⟩
      · unfold lookO; rw [List.find?_cons_of_pos (by simp [r2])]; rfl
      · unfold atKey; rw [List.find?_cons_of_pos (by simp)]; rfl
    · have n1 : ¬ (nkOf kx = some k) := fun z => q (Option.some.inj (r2.symm.trans z))
      have ih := OwM.look k r6
      unfold lookO atKey at ih ⊢
      rw [List.find?_cons_of_neg (by simp [n1]), List.find?_cons_of_neg (by simp [q])]
      rcases ih with ⟨xs', p, l', vs', a, b, c, d, e⟩ | ih
      · exact .inl ⟨xs', p, l', vs', a, b, c, List.mem_cons_of_mem _ d, e⟩
      · exact .inr ih
theorem OwM.keys {G H : Hp} : ∀ {kvs : List (PV × List PV)} {es : List NE} {B : List Addr}, OwM g G H es B kvs → ∀ x ∈ es, KeyIn g.K G x.1 x.2.1
  | [], es, B, h, x, hx => by rw [h.1] at hx; cases hx
  | (kx, xs) :: kvs, es, B, h, x, hx => by
    obtain ⟨nk, ka, l, vs, es', B', rfl, rfl, r1, r2, r3, r4, r5, r6⟩ := h
    rcases List.mem_cons.mp hx with rfl | hx
    · exact ⟨nk_of _ r1 r2, r3⟩
    · exact OwM.keys r6 x hx
theorem OwM.len {G H : Hp} : ∀ {kvs : List (PV × List PV)} {es : List NE} {B : List Addr}, OwM g G H es B kvs → es.length = kvs.length
  | [], es, B, h => by rw [h.1]; rfl
  | (kx, xs) :: kvs, es, B, h => by
    obtain ⟨nk, ka, l, vs, es', B', rfl, rfl, r1, r2, r3, r4, r5, r6⟩ := h
    rw [List.length_cons, List.length_cons, OwM.len r6]
theorem OwM.snoc {G H : Hp} {kx : PV} {xs : List PV} {k : NestedKey} {c l : Addr} {vs : List V} (rk : Rp g G (.ref c) kx) (hk : nkOf kx = some k) (hd : k.depth ≤ 8) (hl : H l = some (.lst vs)) (rl : RpL g G vs xs) : ∀ {kvs : List (PV × List PV)} {es : List NE} {B : List Addr}, OwM g G H es B kvs → OwM g G H (es ++ [(k, c, .ref l)]) (B ++ [l]) (kvs ++ [(kx, xs)])
  | [], es, B, h => by
    obtain ⟨rfl, rfl⟩ := h
    exact ⟨k, c, l, vs, [], [], rfl, rfl, rk, hk, hd, hl, rl, rfl, rfl⟩
  | (kx', xs') :: kvs, es, B, h => by
    obtain ⟨nk, ka, l', vs', es', B', rfl, rfl, r1, r2, r3, r4, r5, r6⟩ := h
    exact ⟨nk, ka, l', vs', es' ++ [(k, c, .ref l)], B' ++ [l], rfl, rfl, r1, r2, r3, r4, r5, OwM.snoc rk hk hd hl rl r6⟩
theorem appO_none {k : NestedKey} {y : PV} : ∀ {kvs : List (PV × List PV)}, (∀ p ∈ kvs, nkOf p.1 ≠ some k) → appO kvs k y = kvs
  | [], _ => rfl
  | p :: kvs, h => by
    show (if nkOf p.1 = some k then (p.1, p.2 ++ [y]) else p) :: appO kvs k y = _
    rw [if_neg (h p List.mem_cons_self), appO_none fun q m => h q (List.mem_cons_of_mem _ m)]
theorem OwM.nks {G H : Hp} {k : NestedKey} : ∀ {kvs : List (PV × List PV)} {es : List NE} {B : List Addr}, OwM g G H es B kvs → k ∉ es.map (·.1) → ∀ p ∈ kvs, nkOf p.1 ≠ some k
  | [], es, B, h, _, p, hp => by cases hp
  | (kx, xs) :: kvs, es, B, h, hn, p, hp => by
    obtain ⟨nk, ka, l, vs, es', B', rfl, rfl, r1, r2, r3, r4, r5, r6⟩ := h
    rw [List.map_cons, List.mem_cons, not_or] at hn
    rcases List.mem_cons.mp hp with rfl | hp
    · intro z
      exact hn.1 (Option.some.inj (z.symm.trans r2))
    · exact OwM.nks r6 hn.2 p hp
theorem OwM.app {G H : Hp} {k : NestedKey} {p : Addr × Value} {l : Addr} {ws : List V} {v : V} {y : PV} (hl : H l = some (.lst ws)) (ry : Rp g G v y) (hp2 : p.2 = .ref l) : ∀ {kvs : List (PV × List PV)} {es : List NE} {B : List Addr}, OwM g G H es B kvs → B.Nodup → (es.map (·.1)).Nodup → atKey es k = some p → OwM g G (upd H l (.lst (ws ++ [v]))) es B (appO kvs k y)
  | [], es, B, h, _, _, hp => by
    obtain ⟨rfl, rfl⟩ := h
    cases hp
  | (kx, xs) :: kvs, es, B, h, nB, nE, hp => by
    obtain ⟨nk, ka, l', vs, es', B', rfl, rfl, r1, r2, r3, r4, r5, r6⟩ := h
    rw [List.map_cons, List.nodup_cons] at nE
    rw [List.nodup_cons] at nB
    show OwM g G (upd H l (.lst (ws ++ [v]))) ((nk, ka, .ref l') :: es') (l' :: B') ((if nkOf kx = some k then (kx, xs ++ [y]) else (kx, xs)) :: appO kvs k y)
    by_cases q : nk = k
    · subst q
      have e : p = (ka, .ref l') := by
        unfold atKey at hp
        rw [List.find?_cons_of_pos (by simp)] at hp
        exact (Option.some.inj hp).symm
      subst e
      cases hp2
      rw [r4] at hl
      cases hl
      rw [if_pos r2, appO_none (OwM.nks r6 nE.1)]
      refine ⟨nk, ka, l, _, es', B', rfl, rfl, r1, r2, r3, upd_same, r5.append (.cons ry .nil), OwM.mono (Same.refl _) (fun a ha => upd_ne fun z => nB.1 (z ▸ ha)) r6⟩
    · have n1 : ¬ (nkOf kx = some k) := fun z => q (Option.some.inj (r2.symm.trans z))
      have hp' : atKey es' k = some p := by
        unfold atKey at hp ⊢
        rwa [List.find?_cons_of_neg (by simp [q])] at hp
      have lB : l ∈ B' := by
        rcases OwM.look k r6 with ⟨_, p', l2, _, _, a, b, c, _⟩ | ⟨_, a⟩
        · rw [hp'] at a; cases a
          rw [hp2] at b; cases b; exact c
        · rw [hp'] at a; cases a
      rw [if_neg n1]
      exact ⟨nk, ka, l', vs, es', B', rfl, rfl, r1, r2, r3, (upd_ne (fun z => nB.1 (by rw [z]; exact lB))).trans r4, r5, OwM.app hl ry hp2 r6 nB.2 nE.2 hp'⟩
end
end Sd
namespace Sd
open PySem PySem.Spec PyProof.Rows L2
end Sd
namespace Sd
open PySem PySem.Spec PyProof.Rows L2
end Sd
namespace Sd
open PySem PySem.Spec PyProof.Rows L2
end Sd
namespace Sd
open PySem PySem.Spec PyProof.Rows L2
def kitCB (K : PySem.W.Frag) : Bool := dsAll.all fun C => !present K C || (kindsN.all (fun T => decide (PySem.W.kitOne K (.type T) (.ref (He.ga K C)) = some false)) && dsAll.all fun D => !present K D || decide (PySem.W.kitOne K (.ref (He.ga K D)) (.ref (He.ga K C)) = some (decide (D = C))))
theorem kitCB_ok {g : Ga} (h : kitCB g.K = true) : KitC g := by
  have key : ∀ C ∈ dsAll, present g.K C = true → (kindsN.all (fun T => decide (PySem.W.kitOne g.K (.type T) (.ref (He.ga g.K C)) = some false)) && dsAll.all fun D => !present g.K D || decide (PySem.W.kitOne g.K (.ref (He.ga g.K D)) (.ref (He.ga g.K C)) = some (decide (D = C)))) = true := fun C m p => by
    have := List.all_eq_true.mp h C m
    rw [p] at this
    exact this
  refine ⟨fun C m p T mT => ?_, fun C m p D mD pD => ?_⟩
  · have := (Bool.and_eq_true_iff.mp (key C m p)).1
    exact of_decide_eq_true (List.all_eq_true.mp this T mT)
  · have := (Bool.and_eq_true_iff.mp (key C m p)).2
    have := List.all_eq_true.mp this D mD
    rw [pD] at this
    exact of_decide_eq_true this
def ktB (K : PySem.W.Frag) (c : Str) : Bool := present K c && kindsN.all fun T => decide (PySem.W.kitOne K (.ref (He.ga K c)) (.type T) = some false)
theorem clsP_of {g : Ga} {c : Str} (cl : Cls g.K (g.c c)) (hi : isB g.K c = true) (hk : ktB g.K c = true) (na : ∀ f ∈ fieldsOf c, NoAttr g.K (g.c c) f) : ClsP g c := by
  obtain ⟨h1, h2⟩ := Bool.and_eq_true_iff.mp hk
  exact ⟨h1, (isB_ok cl hi).1, na, fun T m => of_decide_eq_true (List.all_eq_true.mp h2 T m)⟩
theorem fl_Deeds : fieldsOf "Deeds" = (["kept"] : List Str) := by decide +kernel
/-- a def that never runs -/
theorem psp_none {g : Ga} {n : Nat} {vs : List V} {H : Hp} {Q : VK} {E : XK} (h : PSp g n (fun _ => none) vs H Q E) : False := by
  obtain ⟨_, _, _, _, _, _, _, _, h, _⟩ := h
  cases h
/-- the law itself -/
theorem psp_law {g : Ga} {F : PF} {a : Addr} {ns : List Int} {H : Hp} (tb : Tb0 g H) (hS : SqL g.K H a (ns.map V.int)) (h : F [.fz (.scr ns)] = some ([.no], .ok (.fz (.bl true)))) : PSp g 1 F [.ref a] H (fun v _ => v = .bl true) fun _ _ _ => False := by
  refine ⟨[], [.fz (.scr ns)], [.no], _, rfl, rfl, rfl, ?_, h, fun v H' S => ?_⟩
  · refine ⟨g.tA, tb.nd, tb.nn, .fz (.scr ?_) (.nil tb.all)⟩
    rcases hS with hS | hS
    · left
      have na : a ∉ g.tA := fun z => by
        have e := tb.at_ a z
        rcases hS with e2 | ⟨o, e2⟩
        · rw [e] at e2; cases e2
        · rw [e] at e2; cases e2
      rcases hS with e2 | ⟨o, e2⟩
      · exact .inl ((mns_out na).trans e2)
      · exact .inr ⟨o, (mns_out na).trans e2⟩
    · exact .inr hS
  · obtain ⟨A, z⟩ := S
    have r := z.top
    cases r
    rfl
end Sd
namespace Sd
open PySem PySem.Spec PyProof.Rows L2
end Sd
namespace Sd.Pu
open PySem PySem.Spec PyProof.Rows L2
section
variable {e e1 e2 e3 e4 : Ev} {r r1 r2 : EV} {i : Nat} {x kx : PV} {k : NestedKey} {kvs kvs0 : List (PV × PV)} {fi fk fv : FE} {ft : FT} {S : OS → Prop} {Q : O EV → Prop} {acc a : PV} {Z : Ev × PV → Prop}
/-- d[k] = v -/
def setMQ (i : Nat) (x : PV) (S : OS → Prop) : O EV → Prop
  | .ok e ri => ∃ e1 kx k kvs, frz e ri = some (e1, kx) ∧ keyP kx = some k ∧ ownMap e1[i]? = some kvs ∧ kvs.length < 1000000 ∧ S (.nx (e1.set i (.ow (.map (putM kvs kx k x)))))
  | .er _ _ => False
theorem rSetM (h1 : frz e r = some (e1, x)) (h2 : ownMap e1[i]? = some kvs0) (h3 : Runs (fi e1) (setMQ i x S)) : asgQ (fgSetM i fi) S (.ok e r) := by
  obtain ⟨o, h4, h5⟩ := h3
  cases o with
  | ok e2 ri =>
    obtain ⟨e3, kx, k, kvs, h6, h7, h8, h9, h10⟩ := h5
    refine ⟨_, ?_, h10⟩
    unfold fgSetM
    rw [h1, Option.bind_some]
    dsimp only
    rw [h2, Option.bind_some, h4]
    dsimp only
    rw [h6, Option.bind_some]
    dsimp only
    rw [h7, Option.bind_some, h8, Option.bind_some, if_pos (by rw [sizeLine_eq]; omega)]
  | er e x => exact h5.elim
theorem kSetM (h1 : frz e r = some (e1, kx)) (h2 : keyP kx = some k) (h3 : ownMap e1[i]? = some kvs) (h4 : kvs.length < 1000000) (h5 : e1.set i (.ow (.map (putM kvs kx k x))) = e2) (q : S (.nx e2)) : setMQ i x S (.ok e r) := by subst h5; exact ⟨_, _, _, _, h1, h2, h3, h4, q⟩
/-- {k: v} -/
def dispQ2 (r1 : EV) (Q : O EV → Prop) : O EV → Prop
  | .ok e r2 => ∃ e1 kx x k, frzs e [r1, r2] = some (e1, [kx, x]) ∧ keyP kx = some k ∧ Q (.ok e1 (.vl (.ow (.map [(kx, x)]))))
  | .er e x => Q (.er e x)
def dispQ1 (fv : FE) (Q : O EV → Prop) : O EV → Prop
  | .ok e r1 => Runs (fv e) (dispQ2 r1 Q)
  | .er e x => Q (.er e x)
theorem rDisp1 (h : Runs (fk e) (dispQ1 fv Q)) : Runs (fDisp1 fk fv e) Q := by
  obtain ⟨o, h1, h2⟩ := h
  unfold fDisp1 bnd
  rw [h1]
  cases o with
  | er e x => exact ⟨_, rfl, h2⟩
  | ok e1 r1 =>
    obtain ⟨o2, h3, h4⟩ := h2
    dsimp only
    rw [h3]
    cases o2 with
    | er e x => exact ⟨_, rfl, h4⟩
    | ok e2 r2 =>
      obtain ⟨e3, kx, x, k, h5, h6, q⟩ := h4
      dsimp only
      rw [h5, Option.bind_some]
      dsimp only
      rw [h6]
      exact ⟨_, rfl, q⟩
theorem kDisp1 (h : Runs (fv e) (dispQ2 r1 Q)) : dispQ1 fv Q (.ok e r1) := h
theorem kDisp2 (h1 : frzs e [r1, r2] = some (e1, [kx, x])) (h2 : keyP kx = some k) (q : Q (.ok e1 (.vl (.ow (.map [(kx, x)]))))) : dispQ2 r1 Q (.ok e r2) := ⟨_, _, _, _, h1, h2, q⟩
end
end Sd.Pu
namespace Sd.Pu
open PySem PySem.Spec PyProof.Rows L2
theorem sz : sizeLine = 16777216 := sizeLine_eq
theorem loopS_nx {fg : FG} {fb : FS} {x : PV} {xs : List PV} {e e1 e2 : Ev} (h1 : fg (.vl (.fz x)) e = some e1) (h2 : fb e1 = some (.nx e2)) : loopS fg fb (x :: xs) e = loopS fg fb xs e2 := by
  rw [loopS, h1, Option.bind_some, h2]
theorem loopS_ct {fg : FG} {fb : FS} {x : PV} {xs : List PV} {e e1 e2 : Ev} (h1 : fg (.vl (.fz x)) e = some e1) (h2 : fb e1 = some (.ct e2)) : loopS fg fb (x :: xs) e = loopS fg fb xs e2 := by
  rw [loopS, h1, Option.bind_some, h2]
/-- an invariant by the turn -/
theorem loop_ind {fg : FG} {fb : FS} (P : Nat → Ev → Prop) {xs : List PV} {e0 : Ev} (h0 : P 0 e0) (step : ∀ i x e, xs[i]? = some x → P i e → ∃ e1 e2, fg (.vl (.fz x)) e = some e1 ∧ (fb e1 = some (.nx e2) ∨ fb e1 = some (.ct e2)) ∧ P (i + 1) e2) : ∃ e', loopS fg fb xs e0 = some (.nx e') ∧ P xs.length e' := by
  induction xs generalizing P e0 with
  | nil => exact ⟨e0, rfl, h0⟩
  | cons x xs ih =>
    obtain ⟨e1, e2, h1, h2, h3⟩ := step 0 x e0 rfl h0
    obtain ⟨e', h4, h5⟩ := ih (P := fun i e => P (i + 1) e) h3 fun i y e hy hp => step (i + 1) y e (by simpa using hy) hp
    refine ⟨e', ?_, h5⟩
    rcases h2 with h2 | h2
    · rw [loopS_nx h1 h2]; exact h4
    · rw [loopS_ct h1 h2]; exact h4
/-- goes on, with such slots -/
def Nx (P : Ev → Prop) : OS → Prop
  | .nx e => P e
  | .ct e => P e
  | _ => False
theorem loop_run {fg : FG} {fb : FS} (P : Nat → Ev → Prop) {xs : List PV} {e0 : Ev} (h0 : P 0 e0) (step : ∀ i x e, xs[i]? = some x → P i e → Runs ((fg (.vl (.fz x)) e).bind fb) (Nx (P (i + 1)))) : ∃ e', loopS fg fb xs e0 = some (.nx e') ∧ P xs.length e' := by
  refine loop_ind P h0 fun i x e hx hp => ?_
  obtain ⟨o, h1, h2⟩ := step i x e hx hp
  obtain ⟨e1, h3, h4⟩ := Option.bind_eq_some_iff.mp h1
  cases o with
  | nx e2 => exact ⟨e1, e2, h3, .inl h4, h2⟩
  | ct e2 => exact ⟨e1, e2, h3, .inr h4, h2⟩
  | _ => exact h2.elim
theorem rng_len (n : Nat) : (rngF 0 (n : Int).toNat).length = n := by unfold rngF; rw [List.length_map, List.length_range, Int.toNat_natCast]
theorem rng_get {n i : Nat} {x : PV} (h : (rngF 0 (n : Int).toNat)[i]? = some x) : i < n ∧ x = .int (i : Nat) := by
  unfold rngF at h
  rw [Int.toNat_natCast, List.getElem?_map] at h
  obtain ⟨j, h1, h2⟩ := Option.map_eq_some_iff.mp h
  obtain ⟨h3, h4⟩ := List.getElem?_eq_some_iff.mp h1
  rw [List.getElem_range] at h4
  rw [List.length_range] at h3
  refine ⟨h3, ?_⟩
  rw [← h2, ← h4, Int.zero_add]
/-- a loop over range(n) -/
theorem rng_run {fg : FG} {fb : FS} (P : Nat → Ev → Prop) {n : Nat} {e0 : Ev} (h0 : P 0 e0) (step : ∀ i e, i < n → P i e → Runs ((fg (.vl (.fz (.int (i : Nat)))) e).bind fb) (Nx (P (i + 1)))) : ∃ e', loopS fg fb (rngF 0 (n : Int).toNat) e0 = some (.nx e') ∧ P n e' := by
  have h := loop_run (fg := fg) (fb := fb) P (xs := rngF 0 (n : Int).toNat) h0 (fun i x e hx hp => by
    obtain ⟨h1, rfl⟩ := rng_get hx
    exact step i e h1 hp)
  rw [rng_len] at h
  exact h
/-- values that isinstance may look at -/
def lookable : PV → Bool
  | .ins c _ => dsAll.contains c
  | x => (tyP x).isSome
end Sd.Pu
namespace Sd.Pu
open PySem PySem.Spec PyProof.Rows L2
mutual
/-- plain data, at most n deep -/
def dOk : Nat → PV → Bool
  | _, .non => true
  | _, .bl _ => true
  | _, .int _ => true
  | _, .str z => PyData.strOk z
  | 0, _ => false
  | n + 1, .tup xs => dOks n xs
  | n + 1, .lst xs => dOks n xs
  | _, _ => false
def dOks : Nat → List PV → Bool
  | _, [] => true
  | n, x :: xs => dOk n x && dOks n xs
end
theorem dOks_all (n : Nat) : ∀ xs : List PV, dOks n xs = xs.all (dOk n)
  | [] => rfl
  | x :: xs => by rw [dOks, dOks_all n xs, List.all_cons]
mutual
theorem toD_ok : ∀ (n : Nat) (x : PV), dOk n x = true → ∃ d, toD x = some d ∧ d.canLay0 = true ∧ d.depth ≤ n + 1
  | n, .non, h => ⟨_, by rw [toD] <;> rfl, by simp [PyData.canLay0], by simp [PyData.depth]⟩
  | n, .bl b, h => ⟨_, by rw [toD] <;> rfl, by simp [PyData.canLay0], by simp [PyData.depth]⟩
  | n, .int i, h => ⟨_, by rw [toD] <;> rfl, by simp [PyData.canLay0], by simp [PyData.depth]⟩
  | n, .str z, h => ⟨_, by rw [toD] <;> rfl, by (rw [dOk] at h; simp [PyData.canLay0, h]), by simp [PyData.depth]⟩
  | 0, .tup xs, h => by simp [dOk] at h
  | 0, .lst xs, h => by simp [dOk] at h
  | n + 1, .tup xs, h => by
    rw [dOk] at h
    obtain ⟨ds, h1, h2, h3⟩ := toDs_ok n xs h
    exact ⟨_, by rw [toD, h1] <;> rfl, by rw [PyData.canLay0]; exact h2, by rw [PyData.depth]; omega⟩
  | n + 1, .lst xs, h => by
    rw [dOk] at h
    obtain ⟨ds, h1, h2, h3⟩ := toDs_ok n xs h
    exact ⟨_, by rw [toD, h1] <;> rfl, by rw [PyData.canLay0]; exact h2, by rw [PyData.depth]; omega⟩
  | n, .dct _, h => by cases n <;> simp [dOk] at h
  | n, .scr _, h => by cases n <;> simp [dOk] at h
  | n, .ty _, h => by cases n <;> simp [dOk] at h
  | n, .cl _, h => by cases n <;> simp [dOk] at h
  | n, .ins _ _, h => by cases n <;> simp [dOk] at h
  | n, .exn _ _ _ _, h => by cases n <;> simp [dOk] at h
  | n, .tset _, h => by cases n <;> simp [dOk] at h
  | n, .iset _, h => by cases n <;> simp [dOk] at h
  | n, .map _, h => by cases n <;> simp [dOk] at h
  | n, .omap _, h => by cases n <;> simp [dOk] at h
  | n, .grd _ _ _, h => by cases n <;> simp [dOk] at h
  | n, .nset _, h => by cases n <;> simp [dOk] at h
  | n, .mapO _ _ _, h => by cases n <;> simp [dOk] at h
theorem toDs_ok : ∀ (n : Nat) (xs : List PV), dOks n xs = true → ∃ ds, toDs xs = some ds ∧ PyData.canLayAll0 ds = true ∧ PyData.depthAll ds ≤ n + 1
  | n, [], h => ⟨_, by rw [toDs] <;> rfl, by rw [PyData.canLayAll0] <;> rfl, by rw [PyData.depthAll]; omega⟩
  | n, x :: xs, h => by
    rw [dOks, Bool.and_eq_true] at h
    obtain ⟨d, a1, a2, a3⟩ := toD_ok n x h.1
    obtain ⟨ds, b1, b2, b3⟩ := toDs_ok n xs h.2
    exact ⟨d :: ds, by rw [toDs, a1, b1] <;> rfl, by rw [PyData.canLayAll0, a2, b2] <;> rfl, by rw [PyData.depthAll]; omega⟩
end
theorem okD_of {x : PV} (h : dOk 20 x = true) : okD x = true := by
  obtain ⟨d, h1, h2, h3⟩ := toD_ok 20 x h
  unfold okD
  rw [h1]
  show SeqAt.shaped d = true
  unfold SeqAt.shaped
  rw [h2, decide_eq_true (by omega)] <;> rfl
theorem pEq_of {x y : PV} (h : dOk 20 x = true) (k : dOk 20 y = true) : pEq x y = some (.fz (.bl (eqP x y))) := by
  unfold pEq; rw [okD_of h, okD_of k, Bool.and_true, Bool.or_true, Bool.true_or, Bool.true_or, if_pos rfl]
theorem pInB_flat {x : PV} {ys : List PV} (h : flatP x = true) (k : ys.all flatP = true) : pInB x (.lst ys) = some (inP x ys) := by
  show (if (flatP x && ys.all flatP || (okD x && okD (.lst ys))) = true then some (inP x ys) else none) = _
  rw [h, k, Bool.and_true, Bool.true_or, if_pos rfl]
abbrev intsP (ns : List Int) : List PV := ns.map PV.int
abbrev strsP (zs : List Str) : List PV := zs.map PV.str
def optP : Option Int → PV
  | none => .non
  | some i => .int i
def moveP (m : Move) : PV := .tup [.str m.1, .tup (m.2.map optP)]
def standP (ss : List Int) : PV := .tup (intsP ss)
theorem ints_flat (ns : List Int) : (intsP ns).all flatP = true := by rw [List.all_map, List.all_eq_true]; intro x _; rfl
theorem strs_flat (ns : List Str) : (strsP ns).all flatP = true := by rw [List.all_map, List.all_eq_true]; intro x _; rfl
theorem eqPs_map {α : Type} [DecidableEq α] {f : α → PV} (h : ∀ a b, eqP (f a) (f b) = decide (a = b)) : ∀ xs ys : List α, eqPs (xs.map f) (ys.map f) = decide (xs = ys)
  | [], [] => by rw [List.map_nil, eqPs]; simp
  | [], y :: ys => by rw [List.map_nil, List.map_cons, eqPs] <;> simp
  | x :: xs, [] => by rw [List.map_nil, List.map_cons, eqPs] <;> simp
  | x :: xs, y :: ys => by rw [List.map_cons, List.map_cons, eqPs, h, eqPs_map h xs ys]; simp [Bool.decide_and]
theorem inP_map {α : Type} [DecidableEq α] {f : α → PV} (h : ∀ a b, eqP (f a) (f b) = decide (a = b)) (x : α) : ∀ ys : List α, inP (f x) (ys.map f) = decide (x ∈ ys)
  | [] => by simp [inP]
  | y :: ys => by
    have ih := inP_map h x ys
    unfold inP at ih ⊢
    rw [List.map_cons, List.any_cons, h, ih]
    by_cases e : y = x
    · subst e; simp
    · have e2 : ¬ x = y := fun z => e z.symm
      simp [e, e2]
theorem in_ints (i : Int) (ns : List Int) : pInB (.int i) (.lst (intsP ns)) = some (decide (i ∈ ns)) := by rw [pInB_flat rfl (ints_flat ns), inP_map eq_int]
theorem in_strs (i : Str) (ns : List Str) : pInB (.str i) (.lst (strsP ns)) = some (decide (i ∈ ns)) := by rw [pInB_flat rfl (strs_flat ns), inP_map eq_str]
theorem dOk_map {α : Type} {f : α → PV} {n : Nat} {xs : List α} (h : ∀ x ∈ xs, dOk n (f x) = true) : dOks n (xs.map f) = true := by
  rw [dOks_all, List.all_map, List.all_eq_true]; exact h
theorem atI_map {α β : Type} (f : α → β) (xs : List α) (i : Int) : atI (xs.map f) i = (atI xs i).map f := by
  unfold atI
  rw [List.length_map]
  cases ixN xs.length i with
  | none => rfl
  | some j => rw [Option.bind_some, Option.bind_some, List.getElem?_map]
theorem atI_lt {α : Type} {xs : List α} {k : Nat} (h : k < xs.length) : atI xs (k : Int) = some xs[k] := atI_nat (List.getElem?_eq_getElem h)
theorem atI_int {α : Type} {xs : List α} {i : Int} (h0 : 0 ≤ i) (h : i < xs.length) : ∃ x, atI xs i = some x ∧ x ∈ xs := by
  obtain ⟨k, rfl⟩ := Int.eq_ofNat_of_zero_le h0
  exact ⟨_, atI_lt (by omega), List.getElem_mem _⟩
theorem while_ind {ft : FT} {fb : FS} (P : Ev → Prop) (μ : Ev → Nat) (R : Ev → Prop) (step : ∀ e, P e → (∃ e1 e2, ft e = some (.ok e1 true) ∧ (fb e1 = some (.nx e2) ∨ fb e1 = some (.ct e2)) ∧ P e2 ∧ μ e2 < μ e) ∨ ∃ e1, ft e = some (.ok e1 false) ∧ R e1) :
    ∀ (n : Nat) (e : Ev), μ e < n → P e → ∃ e1, fWhile n ft fb e = some (.nx e1) ∧ R e1
  | 0, e, h, _ => by omega
  | n + 1, e, h, hp => by
    rcases step e hp with ⟨e1, e2, h1, h2, h3, h4⟩ | ⟨e1, h1, h2⟩
    · obtain ⟨e3, h5, h6⟩ := while_ind P μ R step n e2 (by omega) h3
      refine ⟨e3, ?_, h6⟩
      rw [fWhile]
      show bndS (ft e) _ = _
      rw [h1]
      show (match fb e1 with | some (.nx e2) => fWhile n ft fb e2 | some (.ct e2) => fWhile n ft fb e2 | some (.bk e2) => some (.nx e2) | o => o) = _
      rcases h2 with h2 | h2 <;> rw [h2] <;> exact h5
    · refine ⟨e1, ?_, h2⟩
      rw [fWhile]
      show bndS (ft e) _ = _
      rw [h1] <;> rfl
theorem lc_step {fg : FG} {ft : FT} {fe : FE} {vs : List Nat} {x : PV} {xs : List PV} {e e2 : Ev} {acc : List PV} {o : Option PV} (h : lcStep fg ft fe x e = some (e2, o)) (hl : acc.length < sizeLine) : lcLoop fg ft fe vs (x :: xs) e acc = lcLoop fg ft fe vs xs (wipeE e2 vs) (acc ++ o.toList) := by
  rw [lcLoop]
  obtain ⟨e1, h1, h2⟩ := Option.bind_eq_some_iff.mp h
  rw [h1, Option.bind_some]
  cases ht : ft e1 with
  | none => rw [ht] at h2; cases h2
  | some w =>
    rw [ht] at h2
    cases w with
    | er a b => cases h2
    | ok e3 b =>
      cases b with
      | false =>
        cases h2
        show lcLoop fg ft fe vs xs (wipeE e2 vs) acc = _
        rw [Option.toList, List.append_nil]
      | true =>
        show (match fe e3 with | some (.ok e3 r) => _ | _ => none) = _
        replace h2 : (match fe e3 with | some (.ok e3 r) => (frz e3 r).map fun q => (q.1, some q.2) | _ => none) = some (e2, o) := h2
        cases he : fe e3 with
        | none => rw [he] at h2; cases h2
        | some w =>
          rw [he] at h2
          cases w with
          | er a b => cases h2
          | ok e4 r =>
            obtain ⟨q, h3, h4⟩ := Option.map_eq_some_iff.mp (show (frz e4 r).map _ = _ from h2)
            cases h4
            show ((frz e4 r).bind fun q => if acc.length < sizeLine then lcLoop fg ft fe vs xs (wipeE q.1 vs) (acc ++ [q.2]) else none) = _
            rw [h3, Option.bind_some, if_pos hl] <;> rfl
theorem lc_ind {fg : FG} {ft : FT} {fe : FE} {vs : List Nat} (P : Nat → Ev → List PV → Prop) : ∀ (xs : List PV) (i : Nat) (e : Ev) (acc : List PV), acc.length ≤ i → i + xs.length ≤ sizeLine → P i e acc →
    (∀ j x e acc, xs[j]? = some x → P (i + j) e acc → Runs (lcStep fg ft fe x e) fun w => P (i + j + 1) (wipeE w.1 vs) (acc ++ w.2.toList)) → ∃ e' acc', lcLoop fg ft fe vs xs e acc = some (e', acc') ∧ P (i + xs.length) e' acc'
  | [], i, e, acc, _, _, h, _ => ⟨e, acc, rfl, h⟩
  | x :: xs, i, e, acc, hl, hs, h, step => by
    rw [List.length_cons] at hs
    obtain ⟨⟨e2, o⟩, h1, h2⟩ := step 0 x e acc rfl h
    have hl2 : (acc ++ o.toList).length ≤ i + 1 := by
      rw [List.length_append]
      have : o.toList.length ≤ 1 := by cases o <;> simp
      omega
    obtain ⟨e', acc', h3, h4⟩ := lc_ind P xs (i + 1) (wipeE e2 vs) (acc ++ o.toList) hl2 (by omega) h2 fun j y e acc hy hp => by
      have hp' : P (i + (j + 1)) e acc := by rw [show i + (j + 1) = i + 1 + j by omega]; exact hp
      have := step (j + 1) y e acc (by simpa using hy) hp'
      rw [show i + (j + 1) + 1 = i + 1 + j + 1 by omega] at this
      exact this
    refine ⟨e', acc', ?_, ?_⟩
    · rw [lc_step h1 (by omega)]; exact h3
    · rw [List.length_cons, show i + (xs.length + 1) = i + 1 + xs.length by omega]; exact h4
/-- a comprehension over range(n) -/
theorem lc_rng {fg : FG} {ft : FT} {fe : FE} {vs : List Nat} (P : Nat → Ev → List PV → Prop) {n : Nat} {e : Ev} (hn : n ≤ sizeLine) (h : P 0 e []) (step : ∀ i e acc, i < n → P i e acc → Runs (lcStep fg ft fe (.int (i : Nat)) e) fun w => P (i + 1) (wipeE w.1 vs) (acc ++ w.2.toList)) : ∃ e' acc', lcLoop fg ft fe vs (rngF 0 (n : Int).toNat) e [] = some (e', acc') ∧ P n e' acc' := by
  have := lc_ind (fg := fg) (ft := ft) (fe := fe) (vs := vs) P (rngF 0 (n : Int).toNat) 0 e [] (Nat.le_refl _) (by rw [rng_len]; omega) h (fun j x e acc hx hp => by
    obtain ⟨h1, rfl⟩ := rng_get hx
    rw [Nat.zero_add] at hp ⊢
    exact step j e acc h1 hp)
  rw [rng_len, Nat.zero_add] at this
  exact this
/-- a comprehension that changes nothing, over told things -/
theorem lc_told {α : Type} {fg : FG} {ft : FT} {fe : FE} {vs : List Nat} {e : Ev} (f : α → PV) (p : α → Bool) (y : α → PV) : ∀ (xs : List α) (acc : List PV), acc.length + xs.length ≤ sizeLine → (∀ x ∈ xs, Runs (lcStep fg ft fe (f x) e) fun w => w.2 = (if p x = true then some (y x) else none) ∧ wipeE w.1 vs = e) → lcLoop fg ft fe vs (xs.map f) e acc = some (e, acc ++ (xs.filter p).map y)
  | [], acc, _, _ => by rw [List.filter_nil, List.map_nil, List.map_nil, List.append_nil] <;> rfl
  | x :: xs, acc, hl, h => by
    rw [List.length_cons] at hl
    obtain ⟨⟨e2, o⟩, h1, h2, h3⟩ := h x List.mem_cons_self
    dsimp only at h2 h3
    rw [List.map_cons, lc_step h1 (by omega), h3]
    cases hp : p x with
    | false =>
      rw [hp, if_neg Bool.false_ne_true] at h2
      rw [h2, Option.toList, List.append_nil, List.filter_cons_of_neg (by rw [hp]; exact Bool.false_ne_true)]
      exact lc_told f p y xs acc (by omega) fun z hz => h z (List.mem_cons_of_mem _ hz)
    | true =>
      rw [hp, if_pos rfl] at h2
      rw [h2, Option.toList, List.filter_cons_of_pos hp, List.map_cons, lc_told f p y xs (acc ++ [y x]) (by rw [List.length_append]; show acc.length + 1 + _ ≤ _; omega) fun z hz => h z (List.mem_cons_of_mem _ hz), List.append_assoc] <;> rfl
theorem lc_all {α : Type} {fg : FG} {ft : FT} {fe : FE} {vs : List Nat} {e : Ev} (f : α → PV) (y : α → PV) {xs : List α} (hl : xs.length ≤ sizeLine) (h : ∀ x ∈ xs, Runs (lcStep fg ft fe (f x) e) fun w => w.2 = some (y x) ∧ wipeE w.1 vs = e) : lcLoop fg ft fe vs (xs.map f) e [] = some (e, xs.map y) := by
  have := lc_told (fg := fg) (ft := ft) (fe := fe) (vs := vs) (e := e) f (fun _ => true) y xs [] (by simpa using hl) fun x hx => by simpa using h x hx
  rw [this, List.nil_append, List.filter_eq_self.mpr (by simp)]
theorem lc_fil {α : Type} {fg : FG} {ft : FT} {fe : FE} {vs : List Nat} {e : Ev} (f : α → PV) (p : α → Bool) (y : α → PV) {xs : List α} (hl : xs.length ≤ sizeLine) (h : ∀ x ∈ xs, Runs (lcStep fg ft fe (f x) e) fun w => w.2 = (if p x = true then some (y x) else none) ∧ wipeE w.1 vs = e) : lcLoop fg ft fe vs (xs.map f) e [] = some (e, (xs.filter p).map y) := by
  rw [lc_told (fg := fg) (ft := ft) (fe := fe) (vs := vs) (e := e) f p y xs [] (by simpa using hl) h, List.nil_append]
end Sd.Pu
namespace Sd.Pu
open PySem PySem.Spec PyProof.Rows L2
abbrev poolP (a b c : Int) : PV := .lst [.int a, .int b, .int c]
theorem cell_eq (ns : List Int) (k : Nat) (hk : k < 1000) : ∃ c, F_law_cell [.fz (.scr ns), .fz (.int k)] = some ([.no, .no], .ok (.fz (.int c))) := by
  unfold F_law_cell
  by_cases h : k < ns.length
  · have ha : atI ns (k : Int) = some ns[k] := atI_lt h
    refine ⟨ns[k], ?_⟩
    refine Runs.eq <| rFn R0_ A2_ <| rSeq <| rIf <| rTest <| rOp <| rL rfl <| kOp1 <| rCB <| rCons <| rL rfl <| kCons1 <| rL rfl <| kCons2 <| kCB rfl rfl <| kOp2 rfl rfl rfl <| kTest rfl <| kIfT (tLt (by omega)) <| rRet <| rOp <| rL rfl <| kOp1 <| rL rfl <| kOp2 rfl rfl (ixZ ha) <| kRet tV <| ?_
    rfl
  · refine' ⟨_, ?_⟩
    (rotate_left 1; refine Runs.eq <| rFn R0_ A2_ <| rSeq <| rIf <| rTest <| rOp <| rL rfl <| kOp1 <| rCB <| rCons <| rL rfl <| kCons1 <| rL rfl <| kCons2 <| kCB rfl rfl <| kOp2 rfl rfl rfl <| kTest rfl <| kIfF (nLt (by omega)) <| rL rfl <| rRet <| rOp <| rOp <| rL rfl <| kOp1 <| rL rfl <| kOp2 rfl rfl (mulI (by omega)) <| kOp1 <| rL rfl <| kOp2 rfl rfl rfl <| kRet tV <| ?_)
    rfl
theorem pool_eq (c : Int) : ∃ a b, F_law_pool [.fz (.int c)] = some ([.no], .ok (.ow (poolP a b 0))) := by
  unfold F_law_pool
  cases h : bGe c (10 ^ 18) with
  | true =>
    refine ⟨c % 2147483629, c, ?_⟩
    (refine Runs.eq <| rFn R1_ A1_ <| rSeq <| rAsg <| rL rfl <| kAsg (gV rfl s1_) <| rSeq <| rIf <| rTest <| rOp <| rL rfl <| kOp1 <| rOp <| rL rfl <| kOp1 <| rL rfl <| kOp2 rfl rfl rfl <| kOp2 rfl rfl rfl <| kTest rfl <| kIfT h <| rAsg <| rL rfl <| kAsg (gV rfl s1_) <| rRet <| rLst <| rCons <| rOp <| rCB <| rCons <| rL rfl <| ?_; refine kCons1 <| rL rfl <| kCons2 <| kCB rfl rfl <| kOp1 <| rL rfl <| kOp2 rfl rfl rfl <| kCons1 <| rCons <| rL rfl <| kCons1 <| rCons <| rL rfl <| kCons1 <| rL rfl <| kCons2 <| kCons2 <| kCons2 <| kLst (z_ yV (z_ yV (z_ yV zN))) rfl <| kRet tV <| ?_)
    rfl
  | false =>
    refine ⟨c % 2147483629, 0, ?_⟩
    (refine Runs.eq <| rFn R1_ A1_ <| rSeq <| rAsg <| rL rfl <| kAsg (gV rfl s1_) <| rSeq <| rIf <| rTest <| rOp <| rL rfl <| kOp1 <| rOp <| rL rfl <| kOp1 <| rL rfl <| kOp2 rfl rfl rfl <| kOp2 rfl rfl rfl <| kTest rfl <| kIfF h <| rL rfl <| rRet <| rLst <| rCons <| rOp <| rCB <| rCons <| rL rfl <| kCons1 <| rL rfl <| ?_; refine kCons2 <| kCB rfl rfl <| kOp1 <| rL rfl <| kOp2 rfl rfl rfl <| kCons1 <| rCons <| rL rfl <| kCons1 <| rCons <| rL rfl <| kCons1 <| rL rfl <| kCons2 <| kCons2 <| kCons2 <| kLst (z_ yV (z_ yV (z_ yV zN))) rfl <| kRet tV <| ?_)
    rfl
theorem draw_eq (a b c n : Int) (h0 : 0 < n) (h1 : n ≤ 2 ^ 60) : ∃ a' b' c' r, F_law_draw [.ow (poolP a b c), .fz (.int n)] = some ([.ow (poolP a' b' c'), .no], .ok (.fz (.int r))) ∧ 0 ≤ r ∧ r < n := by
  unfold F_law_draw
  have lg : n.natAbs.log2 < 9000 := by
    have : n.natAbs.log2 < 61 := (Nat.log2_lt (by omega)).mpr (by omega)
    omega
  cases h : bGt b 0 with
  | true =>
    refine' ⟨_, _, _, _, ?_, Int.emod_nonneg _ (by omega), Int.emod_lt_of_pos _ h0⟩
    (rotate_left 3; (refine Runs.eq <| rFn R2_ A2_ <| rSeq <| rAsg <| rOp <| rOp <| rL rfl <| kOp1 <| rL rfl <| kOp2 rfl rfl rfl <| kOp1 <| rL rfl <| kOp2 rfl rfl rfl <| kAsg rfl <| rSeq <| rIf <| rTest <| rOp <| rOp <| rL rfl <| kOp1 <| rL rfl <| kOp2 rfl rfl rfl <| kOp1 <| rL rfl <| kOp2 rfl rfl rfl <| kTest rfl <| kIfT h <| rSeq <| rAsg <| ?_; refine rOp <| rCB <| rCons <| rOp <| rL rfl <| kOp1 <| rL rfl <| kOp2 rfl rfl rfl <| kCons1 <| rL rfl <| kCons2 <| kCB rfl rfl <| kOp1 <| rL rfl <| kOp2 rfl rfl (modI (by with_reducible assumption)) <| kAsg (gV rfl s2_) <| rSeq <| rAsg <| rOp <| rOp <| rL rfl <| kOp1 <| rL rfl <| kOp2 rfl rfl rfl <| kOp1 <| rL rfl <| kOp2 rfl rfl (divI (by with_reducible assumption) (by with_reducible assumption)) <| kAsg rfl <| rRet <| rL rfl <| ?_; refine kRet tV <| ?_))
    rfl
  | false =>
    refine' ⟨_, _, _, _, ?_, Int.emod_nonneg _ (by omega), Int.emod_lt_of_pos _ h0⟩
    (rotate_left 3; (refine Runs.eq <| rFn R2_ A2_ <| rSeq <| rAsg <| rOp <| rOp <| rL rfl <| kOp1 <| rL rfl <| kOp2 rfl rfl rfl <| kOp1 <| rL rfl <| kOp2 rfl rfl rfl <| kAsg rfl <| rSeq <| rIf <| rTest <| rOp <| rOp <| rL rfl <| kOp1 <| rL rfl <| kOp2 rfl rfl rfl <| kOp1 <| rL rfl <| kOp2 rfl rfl rfl <| kTest rfl <| kIfF h <| rL rfl <| rSeq <| ?_; refine rAsg <| rOp <| rCB <| rCons <| rOp <| rOp <| rOp <| rOp <| rL rfl <| kOp1 <| rL rfl <| kOp2 rfl rfl rfl <| kOp1 <| rOp <| rL rfl <| kOp1 <| rOp <| rL rfl <| kOp1 <| rL rfl <| kOp2 rfl rfl rfl <| kOp2 rfl rfl (mulI (by omega)) <| kOp2 rfl rfl rfl <| kOp1 <| rL rfl <| kOp2 rfl rfl rfl <| kOp1 <| rL rfl <| kOp2 rfl rfl (mulI (by omega)) <| kCons1 <| ?_; refine rL rfl <| kCons2 <| kCB rfl rfl <| kOp1 <| rL rfl <| kOp2 rfl rfl rfl <| kAsg (gV rfl s3_) <| rSeq <| rAsg <| rOp <| rCB <| rCons <| rOp <| rL rfl <| kOp1 <| rOp <| rOp <| rL rfl <| kOp1 <| rL rfl <| kOp2 rfl rfl rfl <| kOp1 <| rL rfl <| kOp2 rfl rfl rfl <| kOp2 rfl rfl (mulI (by omega)) <| kCons1 <| rL rfl <| kCons2 <| kCB rfl rfl <| kOp1 <| ?_; refine rL rfl <| kOp2 rfl rfl rfl <| kAsg (gV rfl s3_) <| rSeq <| rAsg <| rOp <| rCB <| rCons <| rOp <| rL rfl <| kOp1 <| rOp <| rOp <| rL rfl <| kOp1 <| rL rfl <| kOp2 rfl rfl rfl <| kOp1 <| rL rfl <| kOp2 rfl rfl rfl <| kOp2 rfl rfl (mulI (by omega)) <| kCons1 <| rL rfl <| kCons2 <| kCB rfl rfl <| kOp1 <| rL rfl <| kOp2 rfl rfl rfl <| kAsg (gV rfl s3_) <| rRet <| ?_; refine rOp <| rCB <| rCons <| rOp <| rL rfl <| kOp1 <| rL rfl <| kOp2 rfl rfl rfl <| kCons1 <| rL rfl <| kCons2 <| kCB rfl rfl <| kOp1 <| rL rfl <| kOp2 rfl rfl (modI (by with_reducible assumption)) <| kRet tV <| ?_))
    rfl
theorem bGt0 (l : Nat) : bGt (l : Int) 0 = decide (0 < l) := by rw [bGt_d, decide_eq_decide]; omega
def leftN : Ev → Nat
  | [_, _, .fz (.int l)] => (nm l.toNat []).length
  | _ => 0
theorem name_eq {n : Nat} (hn : n < 26 ^ 12) : F_law_name [.fz (.int n)] = some ([.no], .ok (.fz (.str (nameOf n)))) := by
  unfold F_law_name
  obtain ⟨e1, he, x, rfl⟩ := while_ind (ft := wc1_law_name) (fb := wb1_law_name) (fun e => ∃ (z : Str) (l : Nat), e = [.fz (.int n), .fz (.str z), .fz (.int l)] ∧ nm l (tl z) = nm (n + 1) []) leftN (fun e => ∃ x, e = [.fz (.int n), .fz (.str (nameOf n)), x]) (by
    rintro e ⟨z, l, rfl, hz⟩
    by_cases c : l = 0
    · refine .inr ⟨_, ?_, .fz (.int l), rfl⟩
      have h1 : bGt (l : Int) 0 = false := by rw [bGt0, decide_eq_false (by omega)]
      subst c
      rw [nm_zero] at hz
      have e : z = nameOf n := tl_inj (by rw [hz, tl_nameOf])
      subst e
      unfold wc1_law_name
      refine Runs.eq <| rTest <| rOp <| rL rfl <| kOp1 <| rL rfl <| kOp2 rfl rfl rfl <| kTest rfl <| ?_
      rw [h1]
    · left
      have h1 : bGt (l : Int) 0 = true := by rw [bGt0, decide_eq_true (by omega)]
      have e1 : (l : Int) - 1 = ((l - 1 : Nat) : Int) := by omega
      have e2 : ((l - 1 : Nat) : Int) % 26 = (((l - 1) % 26 : Nat) : Int) := by omega
      have e3 : ((l - 1 : Nat) : Int) / 26 = (((l - 1) / 26 : Nat) : Int) := by omega
      have lz : z.length ≤ 12 := by
        rw [len_tl]
        have h1 := nm_acc l (tl z)
        have h2 := nm_len12 (left := n + 1) hn
        rw [hz] at h1
        omega
      refine ⟨[.fz (.int n), .fz (.str z), .fz (.int l)], [.fz (.int n), .fz (.str ((⟨#[97 + (l - 1) % 26]⟩ : Str) ++ z)), .fz (.int (((l - 1) / 26 : Nat) : Int))], ?_, .inl ?_, ⟨_, _, rfl, ?_⟩, ?_⟩
      · unfold wc1_law_name
        refine Runs.eq <| rTest <| rOp <| rL rfl <| kOp1 <| rL rfl <| kOp2 rfl rfl rfl <| kTest rfl <| ?_
        rw [h1]
      · have a1 : atI (tl abc) (((l : Int) - 1) % 26) = some (97 + (l - 1) % 26) := by rw [e1, e2]; exact abc_at (Nat.mod_lt _ (by decide))
        have a2 : ("abcdefghijklmnopqrstuvwxyz" : Str).length ≤ sizeLine := by
          show abc.length ≤ sizeLine
          rw [abc_len, sz]; decide
        have a3 : (⟨#[97 + (l - 1) % 26]⟩ : Str).length + z.length ≤ sizeLine := by
          show 1 + z.length ≤ sizeLine
          rw [sz]; omega
        unfold wb1_law_name
        (refine Runs.eq <| rSeq <| rAsg <| rOp <| rL rfl <| kOp1 <| rL rfl <| kOp2 rfl rfl rfl <| kAsg (gV rfl s2_) <| rSeq <| rAsg <| rOp <| rOp <| rL rfl <| kOp1 <| rOp <| rCB <| rCons <| rL rfl <| kCons1 <| rL rfl <| kCons2 <| kCB rfl rfl <| kOp1 <| rL rfl <| kOp2 rfl rfl rfl <| kOp2 rfl rfl (ixS (by with_reducible assumption) a1) <| kOp1 <| rL rfl <| kOp2 rfl rfl (catS (by with_reducible assumption)) <| ?_; refine kAsg (gV rfl s1_) <| rAsg <| rOp <| rL rfl <| kOp1 <| rL rfl <| kOp2 rfl rfl rfl <| kAsg (gV rfl s2_) <| ?_)
        first | (rw [e1, e3]; done) | (rw [e1, e3] <;> rfl)
      · rw [tl_cons, ← nm_pos c]; exact hz
      · show (nm ((((l - 1) / 26 : Nat) : Int)).toNat []).length < (nm (l : Int).toNat []).length
        rw [Int.toNat_natCast, Int.toNat_natCast, nm_pos c, nm_app _ [_], List.length_append]
        show _ < _ + 1
        omega) bigN [.fz (.int n), .fz (.str ""), .fz (.int ((n + 1 : Nat) : Int))] (by
      have := nm_len12 (left := n + 1) hn
      rw [bigN_eq]
      show (nm ((n + 1 : Nat) : Int).toNat []).length < _
      rw [Int.toNat_natCast]; omega) ⟨"", n + 1, rfl, rfl⟩
  have en : ((n + 1 : Nat) : Int) = (n : Int) + 1 := by omega
  rw [en] at he
  refine Runs.eq <| rFn R2_ A1_ <| rSeq <| rAsg <| rL rfl <| kAsg (gV rfl s1_) <| rSeq <| rAsg <| rOp <| rL rfl <| kOp1 <| rL rfl <| kOp2 rfl rfl rfl <| kAsg (gV rfl s2_) <| rSeq <| rL he <| rRet <| rL rfl <| kRet tV <| ?_
  rfl
end Sd.Pu
namespace Sd.Pu
open PySem PySem.Spec PyProof.Rows L2
def IsPool (x : PV) : Prop := ∃ a b c, x = poolP a b c
theorem draw {x : PV} (hx : IsPool x) (n : Int) (h0 : 0 < n) (h1 : n ≤ 2 ^ 60) : ∃ x' r, F_law_draw [.ow x, .fz (.int n)] = some ([.ow x', .no], .ok (.fz (.int r))) ∧ IsPool x' ∧ 0 ≤ r ∧ r < n := by
  obtain ⟨a, b, c, rfl⟩ := hx
  obtain ⟨a', b', c', r, h, h2, h3⟩ := draw_eq a b c n h0 h1
  exact ⟨_, r, h, ⟨_, _, _, rfl⟩, h2, h3⟩
abbrev natsP (L : List Nat) : List PV := L.map fun n : Nat => PV.int n
theorem nats_snoc (L : List Nat) (v : Nat) : natsP (L ++ [v]) = natsP L ++ [.int v] := List.map_append
theorem in_nats (i : Nat) (L : List Nat) : pInB (.int i) (.lst (natsP L)) = some (decide (i ∈ L)) := by
  have e : natsP L = intsP (L.map fun n : Nat => (n : Int)) := by unfold natsP intsP; rw [List.map_map] <;> rfl
  rw [e, in_ints]
  congr 1
  rw [decide_eq_decide, List.mem_map]
  constructor
  · rintro ⟨a, h, e⟩
    have : a = i := by omega
    subst this; exact h
  · intro h; exact ⟨i, h, rfl⟩
/-- the number is made different from those before it -/
theorem names_fix {x : PV} {m : PV} {v : Nat} {L : List Nat} {c : SV} (few : L.length ≤ 16) (hv : v < MM) : ∃ v' c', loopS (fgName 5) lb1_law_names (rngF 0 (L.length : Int).toNat) [.ow x, .fz m, .ow (.lst (natsP L)), .fz (.int (L.length : Nat)), .fz (.int (v : Nat)), c] = some (.nx [.ow x, .fz m, .ow (.lst (natsP L)), .fz (.int (L.length : Nat)), .fz (.int (v' : Nat)), c']) ∧ v' < MM ∧ v' ∉ L := by
  obtain ⟨e', h1, v', c', rfl, h2, alt⟩ := rng_run (fg := fgName 5) (fb := lb1_law_names) (n := L.length) (fun i e => ∃ (v' : Nat) (c' : SV), e = [.ow x, .fz m, .ow (.lst (natsP L)), .fz (.int (L.length : Nat)), .fz (.int (v' : Nat)), c'] ∧ v' < MM ∧ (v' ∉ L ∨ (v' = (v + i) % MM ∧ ∀ j, j ≤ i → (v + j) % MM ∈ L)))
    ⟨v, c, rfl, hv, by
      by_cases h : v ∈ L
      · refine .inr ⟨(Nat.mod_eq_of_lt hv).symm, fun j hj => ?_⟩
        obtain rfl : j = 0 := by omega
        rw [Nat.add_zero, Nat.mod_eq_of_lt hv]; exact h
      · exact .inl h⟩ (by
      rintro i e hi ⟨v', c', rfl, hv', alt⟩
      have hin := in_nats v' L
      by_cases hm : v' ∈ L
      · rw [decide_eq_true hm] at hin
        have e1 : ((v' : Int) + 1) % 26 ^ (12 : Int).toNat = (((v' + 1) % MM : Nat) : Int) := by
          show ((v' : Int) + 1) % 26 ^ 12 = _
          rw [Int.natCast_emod] <;> rfl
        unfold lb1_law_names
        (refine rBd (gV rfl s5_) <| rIf <| rTest <| rOp <| rL rfl <| kOp1 <| rL rfl <| kOp2 rfl rfl (inI hin) <| kTest rfl <| kIfT rfl <| rAsg <| rOp <| rCB <| rCons <| rOp <| rL rfl <| kOp1 <| rL rfl <| kOp2 rfl rfl rfl <| kCons1 <| rL rfl <| kCons2 <| kCB rfl rfl <| kOp1 <| rOp <| rL rfl <| kOp1 <| rL rfl <| kOp2 rfl rfl rfl <| kOp2 rfl rfl rfl <| ?_; refine kAsg (gV rfl s4_) <| ?_)
        rw [e1]
        refine ⟨_, _, rfl, Nat.mod_lt _ (by decide), ?_⟩
        · rcases alt with n | ⟨e, all⟩
          · exact absurd hm n
          · have e2 : (v' + 1) % MM = (v + (i + 1)) % MM := by rw [e, Nat.mod_add_mod] <;> rfl
            by_cases h : (v' + 1) % MM ∈ L
            · refine .inr ⟨e2, fun j hj => ?_⟩
              by_cases hji : j ≤ i
              · exact all j hji
              · obtain rfl : j = i + 1 := by omega
                rw [← e2]; exact h
            · exact .inl h
      · rw [decide_eq_false hm] at hin
        unfold lb1_law_names
        refine rBd (gV rfl s5_) <| rIf <| rTest <| rOp <| rL rfl <| kOp1 <| rL rfl <| kOp2 rfl rfl (inI hin) <| kTest rfl <| kIfF rfl <| rL rfl <| ?_
        exact ⟨_, _, rfl, hv', .inl hm⟩)
  refine ⟨v', c', h1, h2, ?_⟩
  rcases alt with n | ⟨e, all⟩
  · exact n
  · exact (not_all_in (M := MM) (v := v) (Nat.lt_of_le_of_lt few (by decide)) all).elim
theorem names_eq {x : PV} (hx : IsPool x) {m : Nat} (hm : m ≤ 16) : ∃ x' zs, F_law_names [.ow x, .fz (.int m)] = some ([.ow x', .no], .ok (.ow (.lst (strsP zs)))) ∧ IsPool x' ∧ zs.length = m ∧ (∀ z ∈ zs, IsName z) ∧ zs.Nodup := by
  obtain ⟨e', h1, x', L, c1, c2, c3, rfl, h2, h3, h4, h5⟩ := rng_run (fg := fgName 3) (fb := lb2_law_names) (n := m) (fun i e => ∃ (x' : PV) (L : List Nat) (c1 c2 c3 : SV), e = [.ow x', .fz (.int m), .ow (.lst (natsP L)), c1, c2, c3] ∧ IsPool x' ∧ L.length = i ∧ L.Nodup ∧ ∀ v ∈ L, v < MM)
    (e0 := [.ow x, .fz (.int m), .ow (.lst []), .no, .no, .no]) ⟨x, [], .no, .no, .no, rfl, hx, rfl, .nil, fun _ h => by cases h⟩ (by
    rintro i e hi ⟨x1, L, c1, c2, c3, rfl, hx1, rfl, nd, hb⟩
    obtain ⟨x2, r, d1, hx2, r0, r1⟩ := draw hx1 26 (by decide) (by decide)
    obtain ⟨x3, r', d2, hx3, r0', r1'⟩ := draw hx2 4 (by decide) (by decide)
    have fin : ∀ v', v' ∉ L → v' < MM → (L ++ [v']).Nodup ∧ ∀ v ∈ L ++ [v'], v < MM := fun v' h1 h2 => ⟨List.nodup_append.mpr ⟨nd, by simp, fun a ha b hb => by
      rw [List.mem_singleton] at hb; subst hb; intro e; subst e; exact h1 ha⟩, fun v hv => by
        rcases List.mem_append.mp hv with h | h
        · exact hb v h
        · rw [List.mem_singleton] at h; subst h; exact h2⟩
    unfold lb2_law_names
    by_cases c : r' = 0
    · subst c
      obtain ⟨x4, r4, d3, hx4, r04, r14⟩ := draw hx3 (26 ^ (12 : Int).toNat) (by decide) (by decide)
      obtain ⟨v, rfl⟩ := Int.eq_ofNat_of_zero_le r04
      obtain ⟨v', c', h1, h2, h3⟩ := names_fix (x := x4) (m := .int m) (c := c3) (v := v) (L := L) (by omega) (by
        have : (v : Int) < 26 ^ 12 := r14
        show v < 26 ^ 12
        omega)
      (refine rBd (gV rfl s3_) <| rSeq <| rAsg <| rCall <| rCons <| rL rfl <| kCons1 <| rCons <| rL rfl <| kCons1 <| rL rfl <| kCons2 <| kCons2 <| kCall (pM rfl s0_ (p_ yV pN)) d1 (bT s0_ (bA rfl)) <| kAsg (gV rfl s4_) <| rSeq <| rIf <| rTest <| rOp <| rCall <| rCons <| rL rfl <| kCons1 <| rCons <| rL rfl <| kCons1 <| rL rfl <| kCons2 <| kCons2 <| kCall (pM rfl s0_ (p_ yV pN)) d2 (bT s0_ (bA rfl)) <| ?_; refine kOp1 <| rL rfl <| kOp2 rfl rfl rfl <| kTest rfl <| kIfT rfl <| rAsg <| rCall <| rCons <| rL rfl <| kCons1 <| rCons <| rOp <| rL rfl <| kOp1 <| rL rfl <| kOp2 rfl rfl rfl <| kCons1 <| rL rfl <| kCons2 <| kCons2 <| kCall (pM rfl s0_ (p_ yV pN)) d3 (bT s0_ (bA rfl)) <| kAsg (gV rfl s4_) <| rSeq <| rFor <| riRng1 <| rCons <| rL rfl <| kCons1 <| rL rfl <| kCons2 <| ?_; refine kiRng1 rfl (by omega) (by omega) <| kFor <| rL h1 <| rDrop <| rMut rfl <| rCons <| rL rfl <| kCons1 <| rL rfl <| kCons2 <| kMut (z_ yV zN) rfl (appI (szLt (by (try simp only [List.length_map, List.length_append, List.length_cons, List.length_nil, List.length_range]); omega))) s2_ <| kDrop <| ?_)
      exact ⟨x4, L ++ [v'], _, _, _, by rw [nats_snoc] <;> rfl, hx4, by simp, fin v' h3 h2⟩
    · obtain ⟨v, rfl⟩ := Int.eq_ofNat_of_zero_le r0
      obtain ⟨v', c', h1, h2, h3⟩ := names_fix (x := x3) (m := .int m) (c := c3) (v := v) (L := L) (by omega) (by
        show v < 26 ^ 12
        omega)
      (refine rBd (gV rfl s3_) <| rSeq <| rAsg <| rCall <| rCons <| rL rfl <| kCons1 <| rCons <| rL rfl <| kCons1 <| rL rfl <| kCons2 <| kCons2 <| kCall (pM rfl s0_ (p_ yV pN)) d1 (bT s0_ (bA rfl)) <| kAsg (gV rfl s4_) <| rSeq <| rIf <| rTest <| rOp <| rCall <| rCons <| rL rfl <| kCons1 <| rCons <| rL rfl <| kCons1 <| rL rfl <| kCons2 <| kCons2 <| kCall (pM rfl s0_ (p_ yV pN)) d2 (bT s0_ (bA rfl)) <| ?_; refine kOp1 <| rL rfl <| kOp2 rfl rfl rfl <| kTest rfl <| kIfF (nEqI (by with_reducible assumption)) <| rL rfl <| rSeq <| rFor <| riRng1 <| rCons <| rL rfl <| kCons1 <| rL rfl <| kCons2 <| kiRng1 rfl (by omega) (by omega) <| kFor <| rL h1 <| rDrop <| rMut rfl <| rCons <| rL rfl <| kCons1 <| rL rfl <| kCons2 <| kMut (z_ yV zN) rfl (appI (szLt (by (try simp only [List.length_map, List.length_append, List.length_cons, List.length_nil, List.length_range]); omega))) s2_ <| kDrop <| ?_)
      exact ⟨x3, L ++ [v'], _, _, _, by rw [nats_snoc] <;> rfl, hx3, by simp, fin v' h3 h2⟩)
  unfold F_law_names
  have hl : ∀ s2, lcLoop (fgName 4) fYes ce1_law_names [4] (natsP L) [.ow x', .fz (.int m), s2, c1, .no, c3] [] = some ([.ow x', .fz (.int m), s2, c1, .no, c3], L.map fun n => PV.str (nameOf n)) := by
    refine fun s2 => lc_all _ _ (by rw [sz]; omega) fun n hn => ?_
    have nq := name_eq (h5 n hn)
    unfold ce1_law_names
    refine rSt (gV rfl s4_) <| rL rfl <| kStT rfl <| rCall0 <| rCons <| rL rfl <| kCons1 <| rL rfl <| kCons2 <| kCall0 (p_ yV pN) nq (bA rfl) <| kSt2 yV <| ?_
    exact ⟨rfl, rfl⟩
  refine ⟨x', L.map nameOf, ?_, h2, by simpa using h3, fun z hz => ?_, ?_⟩
  · refine Runs.eq <| rFn R4_ A2_ <| rSeq <| rAsg <| rLst <| rL rfl <| kLst zN rfl <| kAsg (gV rfl s2_) <| rSeq <| rFor <| riRng1 <| rCons <| rL rfl <| kCons1 <| rL rfl <| kCons2 <| kiRng1 rfl (by omega) (by omega) <| kFor <| rL h1 <| rRet <| rLcO rfl rfl s2_ (wC wN s4_) <| rL (hl _) <| kLcOE (rC rfl s4_ rN) s2_ <| kRet tV <| ?_
    rw [strsP, List.map_map]
    rfl
  · obtain ⟨v, hv, rfl⟩ := List.mem_map.mp hz
    exact nameOf_ok (h5 v hv)
  · rw [List.Nodup, List.pairwise_map]
    exact h4.imp fun h e => h (nameOf_inj e)
end Sd.Pu
namespace Sd.Pu
open PySem PySem.Spec PyProof.Rows L2
theorem pick {α : Type} (f : α → PV) (xs : List α) (h0 : xs ≠ []) (h1 : xs.length ≤ 100000) {x : PV} (hx : IsPool x) : ∃ x' r y, F_law_draw [.ow x, .fz (.int ((xs.map f).length : Nat))] = some ([.ow x', .no], .ok (.fz (.int r))) ∧ IsPool x' ∧ atI (xs.map f) r = some (f y) ∧ y ∈ xs := by
  have l0 := List.length_pos_iff.mpr h0
  obtain ⟨x', r, d, hx', r0, r1⟩ := draw hx ((xs.map f).length : Nat) (by rw [List.length_map]; omega) (by rw [List.length_map]; omega)
  rw [List.length_map] at r1
  obtain ⟨y, h2, h3⟩ := atI_int r0 r1
  exact ⟨x', r, y, d, hx', by rw [atI_map, h2] <;> rfl, h3⟩
/-- a loop over told things -/
theorem loop_told {α : Type} {fg : FG} {fb : FS} (f : α → PV) (P : Nat → Ev → Prop) {xs : List α} {e0 : Ev} (h0 : P 0 e0) (step : ∀ i x e, xs[i]? = some x → P i e → Runs ((fg (.vl (.fz (f x))) e).bind fb) (Nx (P (i + 1)))) : ∃ e', loopS fg fb (xs.map f) e0 = some (.nx e') ∧ P xs.length e' := by
  have h := loop_run (fg := fg) (fb := fb) P (xs := xs.map f) h0 (fun i x e hx hp => by
    rw [List.getElem?_map] at hx
    obtain ⟨y, h1, rfl⟩ := Option.map_eq_some_iff.mp hx
    exact step i y e h1 hp)
  rw [List.length_map] at h
  exact h
end Sd.Pu
namespace Sd.Pu
open PySem PySem.Spec PyProof.Rows L2
end Sd.Pu
namespace Sd.Pu
open PySem PySem.Spec PyProof.Rows L2
end Sd.Pu
namespace Sd.Pu
open PySem PySem.Spec PyProof.Rows L2
def Nxt (P : Ev → Prop) (R : OS → Prop) : OS → Prop
  | .nx e => P e
  | .ct e => P e
  | .bk e => R (.nx e)
  | .rt e s => R (.rt e s)
  | .er e x => R (.er e x)
theorem loop_gen {fg : FG} {fb : FS} (P : Nat → Ev → Prop) (R : OS → Prop) : ∀ (xs : List PV) (i : Nat) (e0 : Ev), P i e0 → (∀ j x e, xs[j]? = some x → P (i + j) e → Runs ((fg (.vl (.fz x)) e).bind fb) (Nxt (P (i + j + 1)) R)) → Runs (loopS fg fb xs e0) fun o => (∃ e, o = .nx e ∧ P (i + xs.length) e) ∨ R o
  | [], i, e0, h0, _ => ⟨_, rfl, .inl ⟨e0, rfl, h0⟩⟩
  | x :: xs, i, e0, h0, step => by
    obtain ⟨o, h1, h2⟩ := step 0 x e0 rfl h0
    obtain ⟨e1, h3, h4⟩ := Option.bind_eq_some_iff.mp h1
    have go : ∀ e2, P (i + 0 + 1) e2 → Runs (loopS fg fb xs e2) fun o => (∃ e, o = .nx e ∧ P (i + (x :: xs).length) e) ∨ R o := fun e2 hp => by
      have := loop_gen P R xs (i + 1) e2 hp fun j y e hy hp => by
        have := step (j + 1) y e (by simpa using hy) (by rw [show i + (j + 1) = i + 1 + j by omega]; exact hp)
        rw [show i + (j + 1) + 1 = i + 1 + j + 1 by omega] at this
        exact this
      rw [show i + 1 + xs.length = i + (x :: xs).length by rw [List.length_cons]; omega] at this
      exact this
    have e : loopS fg fb (x :: xs) e0 = match fb e1 with
      | some (.nx e2) => loopS fg fb xs e2
      | some (.ct e2) => loopS fg fb xs e2
      | some (.bk e2) => some (.nx e2)
      | o => o := by rw [loopS, h3, Option.bind_some] <;> rfl
    rw [e, h4]
    cases o with
    | nx e2 => exact go e2 h2
    | ct e2 => exact go e2 h2
    | bk e2 => exact ⟨_, rfl, .inr h2⟩
    | rt e2 s => exact ⟨_, rfl, .inr h2⟩
    | er e2 x => exact ⟨_, rfl, .inr h2⟩
theorem is_name_eq {z : Str} (h : IsName z) : F_is_name [.fz (.str z)] = some ([.no], .ok (.fz (.bl true))) := by
  obtain ⟨h0, h1, h2⟩ := h
  obtain ⟨e', l1, c, rfl⟩ := loop_told (fg := fgName 1) (fb := lb1_is_name) (fun c : Nat => PV.str ⟨#[c]⟩) (xs := tl z) (fun i e => ∃ c, e = [.fz (.str z), c]) (e0 := [.fz (.str z), .no]) ⟨.no, rfl⟩ (by
    rintro i c e hc ⟨d, rfl⟩
    have hm : c ∈ tl abc := by
      have := h2 c (List.mem_of_getElem? hc)
      rw [abc_tl, List.mem_map]
      exact ⟨c - 97, List.mem_range.mpr (by omega), by omega⟩
    have hin : pInB (.str ⟨#[c]⟩) (.str "abcdefghijklmnopqrstuvwxyz") = some true := by
      show some (decide (c ∈ tl abc)) = _
      rw [decide_eq_true hm]
    unfold lb1_is_name
    refine rBd (gV rfl s1_) <| rIf <| rTest <| rOp <| rL rfl <| kOp1 <| rL rfl <| kOp2 rfl rfl rfl <| kTest rfl <| kIfF (bNotF (tD (by with_reducible assumption))) <| rL rfl <| ?_
    exact ⟨_, rfl⟩)
  have ls : z.length ≤ sizeLine := by rw [sz]; omega
  unfold F_is_name
  (refine Runs.eq <| rFn R1_ A1_ <| rSeq <| rIf <| rOr <| rNot <| rTru <| rCB <| rCons <| rL rfl <| kCons1 <| rCons <| rL rfl <| kCons1 <| rL rfl <| kCons2 <| kCons2 <| kCB rfl rfl <| kTru rfl rfl <| kNotT rfl <| kOrF rfl <| rNot <| rTest <| rCh <| rL rfl <| kCh1 <| rCB <| rCons <| rL rfl <| kCons1 <| ?_; refine rL rfl <| kCons2 <| kCB rfl (lenS (by with_reducible assumption)) <| kCh2T rfl rfl (tLe (by omega)) <| rL rfl <| kCh3 rfl <| kTest rfl <| kNotT (tLe (by omega)) <| kIfF rfl <| rL rfl <| rSeq <| rFor <| riStr <| rL rfl <| kiStr rfl <| kFor <| rL l1 <| rRet <| rL rfl <| kRet tV <| ?_)
  rfl
theorem is_row_lst (xs : List PV) : F_is_row [.fz (.lst xs)] = some ([.no], .ok (.fz (.bl true))) := by
  unfold F_is_row; rfl
theorem is_row_tup (xs : List PV) : F_is_row [.fz (.tup xs)] = some ([.no], .ok (.fz (.bl true))) := by
  unfold F_is_row; rfl
end Sd.Pu
namespace Sd.Pu
open PySem PySem.Spec PyProof.Rows L2
/-- a row of which a hand can be made -/
structure OkRw (r : Rw) : Prop where
  st : 0 ≤ r.1 ∧ r.1 ≤ 99
  ok : ∀ s ∈ r.2, okStep s
  fb : firstBad (r.2.map some) [] 0 = none
  l1 : 1 ≤ r.2.length
  l2 : r.2.length ≤ 24
  w8 : (wordsOf r.2).length ≤ 8
  r8 : (reachL r.2 r.1).length ≤ 8
end Sd.Pu
namespace Sd.Pu
open PySem PySem.Spec PyProof.Rows L2
/-- rows and chosen hands of which a system can be made -/
structure OkSys (rs : List Rw) : Prop where
  n1 : 1 ≤ rs.length
  n4 : rs.length ≤ 4
  ok : ∀ r ∈ rs, OkRw r
  w12 : (sysWords rs).length ≤ 12
theorem SysRows.okS {rs : List Rw} {ks : List Int} (h : SysRows rs ks) : OkSys rs := ⟨h.n1, h.n4, fun r m => ⟨h.st r m, h.ok r m, h.fb r m, h.l1 r m, h.l2 r m, h.w8 r m, h.r8 r m⟩, h.w12⟩
end Sd.Pu
namespace Sd
open PySem PySem.Spec PyProof.Rows L2 Pu
end Sd
namespace Sd.Pu
open PySem PySem.Spec PyProof.Rows L2
end Sd.Pu
namespace Sd
open PySem PySem.Spec PySem.W PyProof.Rows L2
def insB (C : Str) : PV → Bool
  | .ins D _ => decide (D = C)
  | _ => false
end Sd
namespace Sd.Pu
open PySem PySem.Spec PyProof.Rows L2
end Sd.Pu
namespace Sd
open PySem PySem.Spec PyProof.Rows L2
end Sd
namespace Sd
open PySem PySem.Spec PyProof.Rows L2
def rLenT (w : World) : List V → Hp → VK → Prop := fun xs H Q => ∃ a ks, xs = [.ref a] ∧ H a = some (TxO w a ks) ∧ ks.length ≤ 1000 ∧ Q (.int ks.length) H
section
variable {X : Cx}
theorem call_lenT : CallR X (.builtin "len") (rLenT X.w) := by
  intro pins s σ H xs us Q I r h
  obtain ⟨a, ks, rfl, ha, few, q⟩ := h
  rw [Vals.ref1 r]
  obtain ⟨o, es, ep, t, ho, hex, hd, T⟩ := txo_get I ha
  have sz : es.size = ks.length := by
    obtain ⟨zs, p, pm⟩ := T.els
    rw [← Array.length_toList, p.length, pm.length_eq]
  refine call_len_set ho hex hd T.ft (by omega) ?_
  exact ⟨.int ((es.size : Nat) : Int), H, I.tok _, ⟨_, rfl⟩, by rw [sz]; exact q⟩
end
def pLenT : List PV → Option SV
  | [.tset ks] => if ks.length ≤ 1000 then some (.fz (.int ks.length)) else none
  | _ => none
theorem op_lenT {g : Ga} : OpLOk g (rLenT g.w) pLenT := by
  intro A H L vs xs s Q z c hp q
  unfold pLenT at hp
  split at hp
  · split at hp
    · rename_i few
      cases hp
      cases c with
      | cons c t =>
        cases t
        obtain ⟨a, rfl, a1⟩ := c
        exact ⟨_, _, rfl, a1, few, q _ _ (z.scal fun G => .int _)⟩
    · cases hp
  · cases hp
end Sd
namespace Sd
open PySem PySem.Spec PyProof.Rows L2
end Sd
namespace Sd.Pu
open PySem PySem.Spec PyProof.Rows L2
def t_Deeds_names (g : Ga) (E : XK) : TS := (tRet (tCB (rListS2 g.K g.w) (tCons (tFld g.K (tVar 0) "kept") tNil)))
noncomputable def f_Deeds_names : FS := (fRet (fCB pList (fCons (fUn (pFld "kept") (fVar 0)) fNil)))
@[irreducible] noncomputable def F_Deeds_names : PF := fnOf [] 1 1 f_Deeds_names
theorem un_Deeds_names : F_Deeds_names = fnOf [] 1 1 f_Deeds_names := by rw [F_Deeds_names]
theorem fl_Deeds_names : ∀ as w, as.length = 1 → F_Deeds_names as = some w → w.1.length = 1 := by rw [un_Deeds_names]; exact fnOf_len
theorem sim_Deeds_names {g : Ga} {E : XK}  : SimS g (wOf E) [] (t_Deeds_names g E) f_Deeds_names := (simS_ret (simE_cb op_list (simA_cons (simE_fld (simE_var 0)) simA_nil)))
noncomputable def lb1_words_of_row : FS := (fIf (fNot (fTru (fCall F_is_name [false] [] (fCons (fVar 1) fNil)))) (fRaise "BadWords" "value" (fCons (fVar 1) fNil)) fNext)
def t_words_of_row (g : Ga) (E : XK) : TS := (tSeq (tIfS (tTru2 g.K g.w (tCB (rIsi g.K) (tCons (tVar 0) (tCons (tC (.ref (g.c "Deeds"))) tNil)))) (tRet (tMeth (g.c "Deeds") "names" (PSp g 1 F_Deeds_names) [] E (tVar 0) tNil)) tNext) (tSeq (tIfS (tNot (tTru2 g.K g.w (tCall (PSp g 1 F_is_row) [] E (tCons (tVar 0) tNil)))) (tRaiseX (g.c "BadWords") "value" E (tCons (tVar 0) tNil)) tNext) (tSeq (tFor (iSeq2 g.K g.w (tVar 0)) (gName 1) (tIfS (tNot (tTru2 g.K g.w (tCall (PSp g 1 F_is_name) [] E (tCons (tVar 1) tNil)))) (tRaiseX (g.c "BadWords") "value" E (tCons (tVar 1) tNil)) tNext)) (tRet (tCB (rSortedA g.K g.w) (tCons (tCB (rSetX g.K g.w) (tCons (tVar 0) tNil)) tNil))))))
noncomputable def f_words_of_row : FS := (fSeq (fIf (fTru (fCB pIsi (fCons (fVar 0) (fCons (fC (.cl "Deeds")) fNil)))) (fRet (fMeth F_Deeds_names [false] [] (isIns "Deeds" "names") (fVar 0) fNil)) fNext) (fSeq (fIf (fNot (fTru (fCall F_is_row [false] [] (fCons (fVar 0) fNil)))) (fRaise "BadWords" "value" (fCons (fVar 0) fNil)) fNext) (fSeq (fFor (fiSeq (fVar 0)) (fgName 1) lb1_words_of_row) (fRet (fCB pSortedS (fCons (fCB pSet (fCons (fVar 0) fNil)) fNil))))))
@[irreducible] noncomputable def F_words_of_row : PF := fnOf [] 2 1 f_words_of_row
theorem un_words_of_row : F_words_of_row = fnOf [] 2 1 f_words_of_row := by rw [F_words_of_row]
theorem fl_words_of_row : ∀ as w, as.length = 1 → F_words_of_row as = some w → w.1.length = 1 := by rw [un_words_of_row]; exact fnOf_len
theorem sim_words_of_row {g : Ga} {E : XK} (K : KitC g) (pr_Deeds : present g.K "Deeds" = true) : SimS g (wOf E) [] (t_words_of_row g E) f_words_of_row := (simS_seq (simS_if (simT_tru (simE_cb (op_isi K) (simA_cons (simE_var 0) (simA_cons (simE_c fun G => .cl pr_Deeds) simA_nil)))) (simS_ret (simE_meth (fun _ _ _ _ h => h) fl_Deeds_names RpL.none (by rfl) rv_ins (simE_var 0) simA_nil)) simS_next) (simS_seq (simS_if (simT_not (simT_tru (simE_call (fun _ _ _ _ h => h) fl_is_row RpL.none (by rfl) (simA_cons (simE_var 0) simA_nil)))) (simS_raise (simA_cons (simE_var 0) simA_nil)) simS_next) (simS_seq (simS_for (simI_seq (simE_var 0)) simG_name (simS_if (simT_not (simT_tru (simE_call (fun _ _ _ _ h => h) fl_is_name RpL.none (by rfl) (simA_cons (simE_var 1) simA_nil)))) (simS_raise (simA_cons (simE_var 1) simA_nil)) simS_next)) (simS_ret (simE_cb op_sortedA (simA_cons (simE_cb op_set (simA_cons (simE_var 0) simA_nil)) simA_nil))))))
def t_Deeds_init (g : Ga) (E : XK) : TS := (sFld g.K (tVar 0) (tCall (PSp g 1 F_words_of_row) [] E (tCons (tVar 1) tNil)) "kept")
noncomputable def f_Deeds_init : FS := (fFld 0 "kept" (fCall F_words_of_row [false] [] (fCons (fVar 1) fNil)))
@[irreducible] noncomputable def F_Deeds_init : PF := fnOf [0] 2 2 f_Deeds_init
theorem un_Deeds_init : F_Deeds_init = fnOf [0] 2 2 f_Deeds_init := by rw [F_Deeds_init]
theorem fl_Deeds_init : ∀ as w, as.length = 2 → F_Deeds_init as = some w → w.1.length = 2 := by rw [un_Deeds_init]; exact fnOf_len
theorem sim_Deeds_init {g : Ga} {E : XK}  : SimS g (wOf E) [0] (t_Deeds_init g E) f_Deeds_init := (simS_fld (simE_call (fun _ _ _ _ h => h) fl_words_of_row RpL.none (by rfl) (simA_cons (simE_var 1) simA_nil)))
end Sd.Pu
namespace Sd
open PySem PySem.Spec PyProof.Rows L2
end Sd
namespace Sd
open PySem PySem.Spec PyProof.Rows L2
end Sd
namespace Sd.Pu
open PySem PySem.Spec PyProof.Rows L2
def t_o_odd_name (g : Ga) (E : XK) : TS := (tSeq (tAsg (tLst (tCons (tC .non) (tCons (tC (.bl true)) (tCons (tC (.int 7)) (tCons (tUn rNeg (tC (.int 1))) (tCons (tC (.str "")) (tCons (tC (.str "A")) (tCons (tC (.str "a b")) (tCons (tC (.str "abcdefghijklm")) (tCons (tC (.str "a1")) (tCons (tLst (tCons (tC (.str "a")) tNil)) (tCons (tTup (tCons (tC (.str "a")) tNil)) (tCons tDNewK (tCons (tC (.str "_")) (tCons (tC (.str "aB")) (tCons (tC (.str " a")) (tCons (tOp rPow (tC (.int 10)) (tC (.int 30))) tNil))))))))))))))))) (gName 1)) (tRet (tOp (rIx2 g.K g.w) (tVar 1) (tOp rMod (tCB rInt1 (tCons (tVar 0) tNil)) (tC (.int 16))))))
noncomputable def f_o_odd_name : FS := (fSeq (fAsg (fLst (fCons (fC .non) (fCons (fC (.bl true)) (fCons (fC (.int 7)) (fCons (fUn pNeg (fC (.int 1))) (fCons (fC (.str "")) (fCons (fC (.str "A")) (fCons (fC (.str "a b")) (fCons (fC (.str "abcdefghijklm")) (fCons (fC (.str "a1")) (fCons (fLst (fCons (fC (.str "a")) fNil)) (fCons (fTup (fCons (fC (.str "a")) fNil)) (fCons fDNew (fCons (fC (.str "_")) (fCons (fC (.str "aB")) (fCons (fC (.str " a")) (fCons (fOp pPow (fC (.int 10)) (fC (.int 30))) fNil))))))))))))))))) (fgName 1)) (fRet (fOp pIx (fVar 1) (fOp pMod (fCB pInt1 (fCons (fVar 0) fNil)) (fC (.int 16))))))
@[irreducible] noncomputable def F_o_odd_name : PF := fnOf [] 2 1 f_o_odd_name
theorem un_o_odd_name : F_o_odd_name = fnOf [] 2 1 f_o_odd_name := by rw [F_o_odd_name]
theorem fl_o_odd_name : ∀ as w, as.length = 1 → F_o_odd_name as = some w → w.1.length = 1 := by rw [un_o_odd_name]; exact fnOf_len
theorem sim_o_odd_name {g : Ga} {E : XK}  : SimS g (wOf E) [] (t_o_odd_name g E) f_o_odd_name := (simS_seq (simS_asg (simE_lst (simA_cons (simE_c fun G => .non) (simA_cons (simE_c fun G => .bl _) (simA_cons (simE_c fun G => .int _) (simA_cons (simE_un op_neg (simE_c fun G => .int _)) (simA_cons (simE_c fun G => .str _) (simA_cons (simE_c fun G => .str _) (simA_cons (simE_c fun G => .str _) (simA_cons (simE_c fun G => .str _) (simA_cons (simE_c fun G => .str _) (simA_cons (simE_lst (simA_cons (simE_c fun G => .str _) simA_nil)) (simA_cons (simE_tup (simA_cons (simE_c fun G => .str _) simA_nil)) (simA_cons simE_dnew (simA_cons (simE_c fun G => .str _) (simA_cons (simE_c fun G => .str _) (simA_cons (simE_c fun G => .str _) (simA_cons (simE_op Sd.op_pow (simE_c fun G => .int _) (simE_c fun G => .int _)) simA_nil))))))))))))))))) simG_name) (simS_ret (simE_op op_ix (simE_var 1) (simE_op Sd.op_mod (simE_cb op_int1 (simA_cons (simE_var 0) simA_nil)) (simE_c fun G => .int _)))))
end Sd.Pu
namespace Sd.Pu
open PySem PySem.Spec PyProof.Rows L2
noncomputable def wc1_moves_back : FT := (fTest (fOp pNotN (fOp pIx (fVar 0) (fVar 1)) (fC .non)))
noncomputable def wb1_moves_back : FS := (fSeq (fAsg (fOp pIx (fVar 0) (fVar 1)) (fgTup 2 (fgCons (fgName 1) (fgCons (fgName 3) fgNil)))) (fDrop (fMut pAppend 2 (fCons (fVar 3) fNil))))
noncomputable def f_moves_back : FS := (fSeq (fAsg (fLst fNil) (fgName 2)) (fSeq (fWhile bigN wc1_moves_back wb1_moves_back) (fRet (fUn pRev (fVar 2)))))
@[irreducible] noncomputable def F_moves_back : PF := fnOf [] 4 2 f_moves_back
noncomputable def lb1_shortest_way : FS := (fIf (fTest (fOp pNotIn (fVar 8) (fVar 3))) (fSeq (fAsg (fTup (fCons (fVar 6) (fCons (fVar 7) fNil))) (fgSetM 3 (fVar 8))) (fDrop (fMut pAppend 4 (fCons (fVar 8) fNil)))) fNext)
noncomputable def wc1_shortest_way : FT := (fTest (fOp pNotIn (fOp pIx (fVar 4) (fVar 5)) (fVar 2)))
noncomputable def wb1_shortest_way : FS := (fSeq (fAsg (fOp pIx (fVar 4) (fVar 5)) (fgName 6)) (fSeq (fAug (fun i j => i + j) 5 (fC (.int 1))) (fFor (fiSeq (fOp pIx (fVar 0) (fVar 6))) (fgTup 2 (fgCons (fgName 7) (fgCons (fgName 8) fgNil))) lb1_shortest_way)))
noncomputable def f_shortest_way : FS := (fSeq (fAsg (fDisp1 (fVar 1) (fC .non)) (fgName 3)) (fSeq (fAsg (fLst (fCons (fVar 1) fNil)) (fgName 4)) (fSeq (fAsg (fC (.int 0)) (fgName 5)) (fSeq (fWhile bigN wc1_shortest_way wb1_shortest_way) (fRet (fTup (fCons (fCall F_moves_back [false, false] [] (fCons (fVar 3) (fCons (fOp pIx (fVar 4) (fVar 5)) fNil))) (fCons (fOp pIx (fVar 4) (fVar 5)) fNil))))))))
@[irreducible] noncomputable def F_shortest_way : PF := fnOf [] 9 3 f_shortest_way
end Sd.Pu
namespace Sd
open PySem PySem.Spec PyProof.Rows L2
end Sd
namespace Sd
open PySem PySem.Spec PyProof.Rows L2
end Sd
namespace Sd
open PySem PySem.Spec PyProof.Rows L2
end Sd
namespace Sd
open PySem PySem.Spec PySem.Calls PyProof.Rows L2
end Sd
namespace Sd
open PySem PySem.Spec PyProof.Rows L2
end Sd
namespace Sd
open PySem PySem.Spec PyProof.Rows L2
noncomputable def sortL (l : List (List Str)) : List (List Str) := l.mergeSort (PySem.W.dataLe false lrD)
section
variable {g : Ga} {A : List Addr} {H H2 : Hp} {L : List En} {P a : Addr} {q : Str}
theorem Made.keep (m : Made H P q H2) {o : HO} (h : H a = some o) (n : ∀ ps, o ≠ .tbl ps) : H2 a = some o := by
  rcases m with rfl | ⟨ps, c, pos, h1, h2, rfl⟩
  · exact h
  · have aP : a ≠ P := fun z => n ps (by rw [z, h1] at h; exact (Option.some.inj h).symm)
    rw [upd_ne (ne_of_none h h2), upd_ne aP]; exact h
theorem Made.same (m : Made H P q H2) (PA : P ∈ A) : Same (mns H A) (mns H2 A) := by
  rcases m with rfl | ⟨ps, c, pos, h1, h2, rfl⟩
  · exact Same.refl _
  · intro b o e
    by_cases hb : b ∈ A
    · rw [mns_in hb] at e; cases e
    · rw [mns_out hb] at e ⊢
      have bP : b ≠ P := fun z => hb (by rw [z]; exact PA)
      rw [upd_ne (ne_of_none e h2), upd_ne bP]; exact e
end
end Sd
namespace Sd.Pu
open PySem PySem.Spec PyProof.Rows L2
end Sd.Pu
namespace Sd.Pu
open PySem PySem.Spec PyProof.Rows L2
end Sd.Pu
namespace Sd.Pu
open PySem PySem.Spec PyProof.Rows L2
theorem hits_snoc {st : Int} {w : Str} {L : List Step} {i : Nat} {t : Step} (h : L[i]? = some t) : ((List.range (i + 1)).filter fun k => (L[k]?.map (hit st w)).getD false) = ((List.range i).filter fun k => (L[k]?.map (hit st w)).getD false) ++ (if hit st w t = true then [i] else []) := by
  rw [List.range_succ, List.filter_append]
  congr 1
  by_cases c : hit st w t = true
  · rw [if_pos c, List.filter_cons_of_pos (by rw [h]; exact c)] <;> rfl
  · rw [if_neg c, List.filter_cons_of_neg (by rw [h]; exact c)] <;> rfl
end Sd.Pu
namespace Sd.Pu
open PySem PySem.Spec PyProof.Rows L2
def lookM : PV → Bool
  | .tup [a, .tup ns] => lookable a && ns.all lookable
  | .tup zs => zs.all lookable
  | x => lookable x
end Sd.Pu
namespace Sd.Pu
open PySem PySem.Spec PyProof.Rows L2
end Sd.Pu
namespace Sd.Pu
open PySem PySem.Spec PyProof.Rows L2
theorem flat_le {α β : Type} {f : α → List β} {k : Nat} : ∀ (l : List α), (∀ x ∈ l, (f x).length ≤ k) → (l.flatMap f).length ≤ k * l.length
  | [], _ => by simp
  | x :: l, h => by
    have h1 := flat_le l fun y hy => h y (List.mem_cons_of_mem _ hy)
    have h2 := h x List.mem_cons_self
    rw [List.flatMap_cons, List.length_append, List.length_cons, Nat.mul_succ]
    omega
end Sd.Pu
namespace Sd.Pu
open PySem PySem.Spec PyProof.Rows L2
end Sd.Pu
namespace Sd.Pu
open PySem PySem.Spec PyProof.Rows L2
end Sd.Pu
namespace Sd.Pu
open PySem PySem.Spec PyProof.Rows L2
theorem txtsOf_map (ns : List Str) : txtsOf (strsP ns) = some ns := by
  induction ns with
  | nil => rfl
  | cons n ns ih => rw [strsP, List.map_cons, txtsOf, ih] <;> rfl
theorem set_strs (ws : List Str) (h : ws.length ≤ 1000) : ∃ v, pSet [.lst (strsP ws)] = some (.fz v) ∧ pSortedS [v] = some (.ow (.lst (strsP (uniq ws)))) := by
  refine ⟨.tset (allT ws), ?_, ?_⟩
  · unfold pSet
    dsimp only
    rw [txtsOf_map]
    dsimp only
    rw [if_pos h]
  · show some (SV.ow (.lst (strsP (uniq (allT ws))))) = _
    rw [uniq_allT]
end Sd.Pu
namespace Sd.Pu
open PySem PySem.Spec PyProof.Rows L2
end Sd.Pu
namespace Sd.Pu
open PySem PySem.Spec PyProof.Rows L2
end Sd.Pu
namespace Sd.Pu
open PySem PySem.Spec PyProof.Rows L2
def sOk : Nat → PV → Bool
  | 0, _ => false
  | _ + 1, .non => true
  | _ + 1, .bl _ => true
  | _ + 1, .int _ => true
  | _ + 1, .str _ => true
  | _ + 1, .dct [] => true
  | n + 1, .lst xs => decide (xs.length ≤ 1000000) && xs.all (sOk n)
  | n + 1, .tup xs => decide (xs.length ≤ 1000000) && xs.all (sOk n)
  | _ + 1, _ => false
theorem same_loop {n : Nat} {v : PV} {xs : List PV} {c : SV} (hv : v = .lst xs ∨ v = .tup xs) (h : ∀ x ∈ xs, F_law_same n [.fz x, .fz x] = some ([.no, .no], .ok (.fz (.bl true)))) : ∃ c', loopS (fgName 2) (lb1_law_same (F_law_same n)) (rngF 0 (xs.length : Int).toNat) [.fz v, .fz v, c] = some (.nx [.fz v, .fz v, c']) := by
  obtain ⟨e', q1, c', rfl⟩ := rng_run (fg := fgName 2) (fb := lb1_law_same (F_law_same n)) (n := xs.length) (fun i e => ∃ c', e = [.fz v, .fz v, c']) (e0 := [.fz v, .fz v, c]) ⟨c, rfl⟩ (by
    rintro i e hi ⟨c', rfl⟩
    have ha : atI xs (i : Int) = some xs[i] := atI_lt hi
    have hs := h xs[i] (List.getElem_mem _)
    generalize xs[i] = y at ha hs
    unfold lb1_law_same
    rcases hv with rfl | rfl
    · refine rBd (gV rfl s2_) <| rIf <| rNot <| rTru <| rCall <| rCons <| rOp <| rL rfl <| kOp1 <| rL rfl <| kOp2 rfl rfl (ixL ha) <| kCons1 <| rCons <| rOp <| rL rfl <| kOp1 <| rL rfl <| kOp2 rfl rfl (ixL ha) <| kCons1 <| rL rfl <| kCons2 <| kCons2 <| kCall (p_ yV (p_ yV pN)) hs (bA rfl) <| kTru rfl rfl <| kNotT rfl <| kIfF rfl <| rL rfl <| ?_
      exact ⟨_, rfl⟩
    · refine rBd (gV rfl s2_) <| rIf <| rNot <| rTru <| rCall <| rCons <| rOp <| rL rfl <| kOp1 <| rL rfl <| kOp2 rfl rfl (ixL ha) <| kCons1 <| rCons <| rOp <| rL rfl <| kOp1 <| rL rfl <| kOp2 rfl rfl (ixL ha) <| kCons1 <| rL rfl <| kCons2 <| kCons2 <| kCall (p_ yV (p_ yV pN)) hs (bA rfl) <| kTru rfl rfl <| kNotT rfl <| kIfF rfl <| rL rfl <| ?_
      exact ⟨_, rfl⟩)
  exact ⟨c', q1⟩
theorem same_refl : ∀ (n : Nat) (x : PV), sOk n x = true → F_law_same n [.fz x, .fz x] = some ([.no, .no], .ok (.fz (.bl true)))
  | 0, x, h => by cases h
  | n + 1, x, h => by
    rw [same_succ]
    cases x with
    | lst xs =>
      have h' := Bool.and_eq_true_iff.mp (show (decide (xs.length ≤ 1000000) && xs.all (sOk n)) = true from h)
      have hl := of_decide_eq_true h'.1
      obtain ⟨c', q⟩ := same_loop (n := n) (v := .lst xs) (c := .no) (.inl rfl) fun x hx => same_refl n x (List.all_eq_true.mp h'.2 x hx)
      (refine Runs.eq <| rFn R1_ A2_ <| rSeq <| rIf <| rTest <| rOp <| rL rfl <| kOp1 <| rL rfl <| kOp2 rfl rfl rfl <| kTest rfl <| kIfF rfl <| rL rfl <| rSeq <| rIf <| rTru <| rCB <| rCons <| rL rfl <| kCons1 <| rCons <| rL rfl <| kCons1 <| rL rfl <| kCons2 <| kCons2 <| kCB rfl rfl <| kTru rfl rfl <| kIfF rfl <| rL rfl <| ?_; refine rSeq <| rIf <| rTru <| rCB <| rCons <| rL rfl <| kCons1 <| rCons <| rL rfl <| kCons1 <| rL rfl <| kCons2 <| kCons2 <| kCB rfl rfl <| kTru rfl rfl <| kIfF rfl <| rL rfl <| rSeq <| rIf <| rTru <| rCB <| rCons <| rL rfl <| kCons1 <| rCons <| rL rfl <| kCons1 <| rL rfl <| kCons2 <| kCons2 <| ?_; refine kCB rfl rfl <| kTru rfl rfl <| kIfF rfl <| rL rfl <| rSeq <| rIf <| rAnd <| rTru <| rCB <| rCons <| rL rfl <| kCons1 <| rCons <| rL rfl <| kCons1 <| rL rfl <| kCons2 <| kCons2 <| kCB rfl rfl <| kTru rfl rfl <| kAndT rfl <| rNot <| rTru <| rCB <| rCons <| rL rfl <| kCons1 <| rCons <| rL rfl <| kCons1 <| ?_; refine rL rfl <| kCons2 <| kCons2 <| kCB rfl rfl <| kTru rfl rfl <| kNotT rfl <| kIfF rfl <| rL rfl <| rSeq <| rIf <| rAnd <| rTru <| rCB <| rCons <| rL rfl <| kCons1 <| rCons <| rL rfl <| kCons1 <| rL rfl <| kCons2 <| kCons2 <| kCB rfl rfl <| kTru rfl rfl <| kAndF rfl <| kIfF rfl <| rL rfl <| rSeq <| rIf <| rTru <| ?_; refine rCB <| rCons <| rL rfl <| kCons1 <| rCons <| rL rfl <| kCons1 <| rL rfl <| kCons2 <| kCons2 <| kCB rfl rfl <| kTru rfl rfl <| kIfF rfl <| rL rfl <| rSeq <| rIf <| rTest <| rOp <| rCB <| rCons <| rL rfl <| kCons1 <| rL rfl <| kCons2 <| kCB rfl rfl <| kOp1 <| rCB <| rCons <| rL rfl <| kCons1 <| ?_; refine rL rfl <| kCons2 <| kCB rfl rfl <| kOp2 rfl rfl rfl <| kTest rfl <| kIfF (bNotF (tEqI (by omega))) <| rL rfl <| rSeq <| rFor <| riRng1 <| rCons <| rCB <| rCons <| rL rfl <| kCons1 <| rL rfl <| kCons2 <| kCB rfl rfl <| kCons1 <| rL rfl <| kCons2 <| kiRng1 rfl (by omega) (by omega) <| kFor <| rL q <| rRet <| rL rfl <| kRet tV <| ?_)
      rfl
    | tup xs =>
      have h' := Bool.and_eq_true_iff.mp (show (decide (xs.length ≤ 1000000) && xs.all (sOk n)) = true from h)
      have hl := of_decide_eq_true h'.1
      obtain ⟨c', q⟩ := same_loop (n := n) (v := .tup xs) (c := .no) (.inr rfl) fun x hx => same_refl n x (List.all_eq_true.mp h'.2 x hx)
      (refine Runs.eq <| rFn R1_ A2_ <| rSeq <| rIf <| rTest <| rOp <| rL rfl <| kOp1 <| rL rfl <| kOp2 rfl rfl rfl <| kTest rfl <| kIfF rfl <| rL rfl <| rSeq <| rIf <| rTru <| rCB <| rCons <| rL rfl <| kCons1 <| rCons <| rL rfl <| kCons1 <| rL rfl <| kCons2 <| kCons2 <| kCB rfl rfl <| kTru rfl rfl <| kIfF rfl <| rL rfl <| ?_; refine rSeq <| rIf <| rTru <| rCB <| rCons <| rL rfl <| kCons1 <| rCons <| rL rfl <| kCons1 <| rL rfl <| kCons2 <| kCons2 <| kCB rfl rfl <| kTru rfl rfl <| kIfF rfl <| rL rfl <| rSeq <| rIf <| rTru <| rCB <| rCons <| rL rfl <| kCons1 <| rCons <| rL rfl <| kCons1 <| rL rfl <| kCons2 <| kCons2 <| ?_; refine kCB rfl rfl <| kTru rfl rfl <| kIfF rfl <| rL rfl <| rSeq <| rIf <| rAnd <| rTru <| rCB <| rCons <| rL rfl <| kCons1 <| rCons <| rL rfl <| kCons1 <| rL rfl <| kCons2 <| kCons2 <| kCB rfl rfl <| kTru rfl rfl <| kAndF rfl <| kIfF rfl <| rL rfl <| rSeq <| rIf <| rAnd <| rTru <| rCB <| rCons <| rL rfl <| ?_; refine kCons1 <| rCons <| rL rfl <| kCons1 <| rL rfl <| kCons2 <| kCons2 <| kCB rfl rfl <| kTru rfl rfl <| kAndT rfl <| rNot <| rTru <| rCB <| rCons <| rL rfl <| kCons1 <| rCons <| rL rfl <| kCons1 <| rL rfl <| kCons2 <| kCons2 <| kCB rfl rfl <| kTru rfl rfl <| kNotT rfl <| kIfF rfl <| rL rfl <| rSeq <| rIf <| rTru <| ?_; refine rCB <| rCons <| rL rfl <| kCons1 <| rCons <| rL rfl <| kCons1 <| rL rfl <| kCons2 <| kCons2 <| kCB rfl rfl <| kTru rfl rfl <| kIfF rfl <| rL rfl <| rSeq <| rIf <| rTest <| rOp <| rCB <| rCons <| rL rfl <| kCons1 <| rL rfl <| kCons2 <| kCB rfl rfl <| kOp1 <| rCB <| rCons <| rL rfl <| kCons1 <| ?_; refine rL rfl <| kCons2 <| kCB rfl rfl <| kOp2 rfl rfl rfl <| kTest rfl <| kIfF (bNotF (tEqI (by omega))) <| rL rfl <| rSeq <| rFor <| riRng1 <| rCons <| rCB <| rCons <| rL rfl <| kCons1 <| rL rfl <| kCons2 <| kCB rfl rfl <| kCons1 <| rL rfl <| kCons2 <| kiRng1 rfl (by omega) (by omega) <| kFor <| rL q <| rRet <| rL rfl <| kRet tV <| ?_)
      rfl
    | non => refine Runs.eq <| rFn R1_ A2_ <| rSeq <| rIf <| rTest <| rOp <| rL rfl <| kOp1 <| rL rfl <| kOp2 rfl rfl rfl <| kTest rfl <| kIfT rfl <| rRet <| rOp <| rL rfl <| kOp1 <| rL rfl <| kOp2 rfl rfl rfl <| kRet tV <| ?_; rfl
    | bl b => cases b <;> (refine Runs.eq <| rFn R1_ A2_ <| rSeq <| rIf <| rTest <| rOp <| rL rfl <| kOp1 <| rL rfl <| kOp2 rfl rfl rfl <| kTest rfl <| kIfF rfl <| rL rfl <| rSeq <| rIf <| rTru <| rCB <| rCons <| rL rfl <| kCons1 <| rCons <| rL rfl <| kCons1 <| rL rfl <| kCons2 <| kCons2 <| kCB rfl rfl <| kTru rfl rfl <| kIfT rfl <| rRet <| ?_; refine rAndV <| rTest <| rCB <| rCons <| rL rfl <| kCons1 <| rCons <| rL rfl <| kCons1 <| rL rfl <| kCons2 <| kCons2 <| kCB rfl rfl <| kTest rfl <| kAndVT rfl <| rOp <| rL rfl <| kOp1 <| rL rfl <| kOp2 rfl rfl rfl <| kRet tV <| ?_) <;> rfl
    | int i => (refine Runs.eq <| rFn R1_ A2_ <| rSeq <| rIf <| rTest <| rOp <| rL rfl <| kOp1 <| rL rfl <| kOp2 rfl rfl rfl <| kTest rfl <| kIfF rfl <| rL rfl <| rSeq <| rIf <| rTru <| rCB <| rCons <| rL rfl <| kCons1 <| rCons <| rL rfl <| kCons1 <| rL rfl <| kCons2 <| kCons2 <| kCB rfl rfl <| kTru rfl rfl <| kIfF rfl <| rL rfl <| ?_; refine rSeq <| rIf <| rTru <| rCB <| rCons <| rL rfl <| kCons1 <| rCons <| rL rfl <| kCons1 <| rL rfl <| kCons2 <| kCons2 <| kCB rfl rfl <| kTru rfl rfl <| kIfT rfl <| rRet <| rAndV <| rTest <| rCB <| rCons <| rL rfl <| kCons1 <| rCons <| rL rfl <| kCons1 <| rL rfl <| kCons2 <| kCons2 <| kCB rfl rfl <| ?_; refine kTest rfl <| kAndVT rfl <| rAndV <| rTest <| rNotV <| rTest <| rCB <| rCons <| rL rfl <| kCons1 <| rCons <| rL rfl <| kCons1 <| rL rfl <| kCons2 <| kCons2 <| kCB rfl rfl <| kTest rfl <| kNotV <| kTest rfl <| kAndVT rfl <| rOp <| rL rfl <| kOp1 <| rL rfl <| kOp2 rfl rfl rfl <| kRet tV <| ?_); rw [eq_int, decide_eq_true rfl] <;> rfl
    | str z => (refine Runs.eq <| rFn R1_ A2_ <| rSeq <| rIf <| rTest <| rOp <| rL rfl <| kOp1 <| rL rfl <| kOp2 rfl rfl rfl <| kTest rfl <| kIfF rfl <| rL rfl <| rSeq <| rIf <| rTru <| rCB <| rCons <| rL rfl <| kCons1 <| rCons <| rL rfl <| kCons1 <| rL rfl <| kCons2 <| kCons2 <| kCB rfl rfl <| kTru rfl rfl <| kIfF rfl <| rL rfl <| ?_; refine rSeq <| rIf <| rTru <| rCB <| rCons <| rL rfl <| kCons1 <| rCons <| rL rfl <| kCons1 <| rL rfl <| kCons2 <| kCons2 <| kCB rfl rfl <| kTru rfl rfl <| kIfF rfl <| rL rfl <| rSeq <| rIf <| rTru <| rCB <| rCons <| rL rfl <| kCons1 <| rCons <| rL rfl <| kCons1 <| rL rfl <| kCons2 <| kCons2 <| ?_; refine kCB rfl rfl <| kTru rfl rfl <| kIfT rfl <| rRet <| rAndV <| rTest <| rCB <| rCons <| rL rfl <| kCons1 <| rCons <| rL rfl <| kCons1 <| rL rfl <| kCons2 <| kCons2 <| kCB rfl rfl <| kTest rfl <| kAndVT rfl <| rOp <| rL rfl <| kOp1 <| rL rfl <| kOp2 rfl rfl rfl <| kRet tV <| ?_); rw [eq_str, decide_eq_true rfl] <;> rfl
    | dct d =>
      cases d with
      | nil => (refine Runs.eq <| rFn R1_ A2_ <| rSeq <| rIf <| rTest <| rOp <| rL rfl <| kOp1 <| rL rfl <| kOp2 rfl rfl rfl <| kTest rfl <| kIfF rfl <| rL rfl <| rSeq <| rIf <| rTru <| rCB <| rCons <| rL rfl <| kCons1 <| rCons <| rL rfl <| kCons1 <| rL rfl <| kCons2 <| kCons2 <| kCB rfl rfl <| kTru rfl rfl <| kIfF rfl <| rL rfl <| ?_; refine rSeq <| rIf <| rTru <| rCB <| rCons <| rL rfl <| kCons1 <| rCons <| rL rfl <| kCons1 <| rL rfl <| kCons2 <| kCons2 <| kCB rfl rfl <| kTru rfl rfl <| kIfF rfl <| rL rfl <| rSeq <| rIf <| rTru <| rCB <| rCons <| rL rfl <| kCons1 <| rCons <| rL rfl <| kCons1 <| rL rfl <| kCons2 <| kCons2 <| ?_; refine kCB rfl rfl <| kTru rfl rfl <| kIfF rfl <| rL rfl <| rSeq <| rIf <| rAnd <| rTru <| rCB <| rCons <| rL rfl <| kCons1 <| rCons <| rL rfl <| kCons1 <| rL rfl <| kCons2 <| kCons2 <| kCB rfl rfl <| kTru rfl rfl <| kAndF rfl <| kIfF rfl <| rL rfl <| rSeq <| rIf <| rAnd <| rTru <| rCB <| rCons <| rL rfl <| ?_; refine kCons1 <| rCons <| rL rfl <| kCons1 <| rL rfl <| kCons2 <| kCons2 <| kCB rfl rfl <| kTru rfl rfl <| kAndF rfl <| kIfF rfl <| rL rfl <| rSeq <| rIf <| rTru <| rCB <| rCons <| rL rfl <| kCons1 <| rCons <| rL rfl <| kCons1 <| rL rfl <| kCons2 <| kCons2 <| kCB rfl rfl <| kTru rfl rfl <| kIfT rfl <| rRet <| rAndV <| ?_; refine rTest <| rCB <| rCons <| rL rfl <| kCons1 <| rCons <| rL rfl <| kCons1 <| rL rfl <| kCons2 <| kCons2 <| kCB rfl rfl <| kTest rfl <| kAndVT rfl <| rOp <| rL rfl <| kOp1 <| rL rfl <| kOp2 rfl rfl rfl <| kRet tV <| ?_); rfl
      | cons _ _ => cases h
    | _ => cases h
end Sd.Pu
namespace Sd.Pu
open PySem PySem.Spec PyProof.Rows L2
end Sd.Pu
namespace Sd.Pu
open PySem PySem.Spec PyProof.Rows L2
end Sd.Pu
namespace Sd.Pu
open PySem PySem.Spec PyProof.Rows L2
end Sd.Pu
namespace Sd.Pu
open PySem PySem.Spec PyProof.Rows L2
end Sd.Pu
namespace Sd.Pu
open PySem PySem.Spec PyProof.Rows L2
end Sd.Pu
namespace Sd.Pu
open PySem PySem.Spec PyProof.Rows L2
end Sd.Pu
namespace Sd.Pu
open PySem PySem.Spec PyProof.Rows L2
/-- some slots are set -/
def sl (e : Ev) : List (Nat × SV) → Ev
  | [] => e
  | (i, x) :: r => sl (e.set i x) r
/-- what an if leaves (P e0 e: e behind, e0 ahead of it) -/
theorem rCut {a c : FS} {e0 : Ev} {S : OS → Prop} (P : Ev → Ev → Prop) (h : Runs (a e0) fun o => ∃ e, o = .nx e ∧ P e0 e) (k : ∀ e, P e0 e → Runs (c e) S) : Runs (fSeq a c e0) S := by
  obtain ⟨o, h1, e, rfl, p⟩ := h
  exact rSeq ⟨_, h1, k e p⟩
section
variable {α : Type} {fg : FG} {fb : FS} {f : α → PV} {xs : List α} {ys : List PV} {e0 : Ev} {S : OS → Prop}
theorem told_gen (P : Nat → Ev → Prop) (R : OS → Prop) (h0 : P 0 e0) (step : ∀ i x e, xs[i]? = some x → P i e → Runs ((fg (.vl (.fz (f x))) e).bind fb) (Nxt (P (i + 1)) R)) : Runs (loopS fg fb (xs.map f) e0) fun o => (∃ e, o = .nx e ∧ P xs.length e) ∨ R o := by
  have h := loop_gen (fg := fg) (fb := fb) P R (xs.map f) 0 e0 h0 (fun j x e hx hp => by
    rw [List.getElem?_map] at hx
    obtain ⟨y, h1, rfl⟩ := Option.map_eq_some_iff.mp hx
    rw [Nat.zero_add] at hp ⊢
    exact step j y e h1 hp)
  rw [List.length_map, Nat.zero_add] at h
  exact h
theorem raw_gen (P : Nat → Ev → Prop) (R : OS → Prop) (h0 : P 0 e0) (step : ∀ i x e, ys[i]? = some x → P i e → Runs ((fg (.vl (.fz x)) e).bind fb) (Nxt (P (i + 1)) R)) : Runs (loopS fg fb ys e0) fun o => (∃ e, o = .nx e ∧ P ys.length e) ∨ R o := by
  have h := loop_gen (fg := fg) (fb := fb) P R ys 0 e0 h0 (fun j x e hx hp => by
    rw [Nat.zero_add] at hp ⊢
    exact step j x e hx hp)
  rw [Nat.zero_add] at h
  exact h
end
end Sd.Pu
namespace Sd.Pu
open PySem PySem.Spec PyProof.Rows L2
end Sd.Pu
namespace Sd.Pu
open PySem PySem.Spec PyProof.Rows L2
end Sd.Pu
namespace Sd.Pu
open PySem PySem.Spec PyProof.Rows L2
theorem OkRw.rw {r : Rw} (h : OkRw r) : RwOk r := ⟨h.1, h.2, h.3, h.4, h.5, h.6, h.7⟩
end Sd.Pu
namespace Sd.Pu
open PySem PySem.Spec PyProof.Rows L2
end Sd.Pu
namespace Sd.Pu
open PySem PySem.Spec PyProof.Rows L2
end Sd.Pu
namespace Sd.Pu
open PySem PySem.Spec PyProof.Rows L2
end Sd.Pu
namespace Sd.Pu
open PySem PySem.Spec PyProof.Rows L2
end Sd.Pu
namespace Sd.Pu
open PySem PySem.Spec PyProof.Rows L2
end Sd.Pu
namespace Sd.Pu
open PySem PySem.Spec PyProof.Rows L2
structure Good (rs : List Rw) (ds : List Int) : Prop where
  ok : ∀ r ∈ rs, OkRw r
  n1 : 1 ≤ rs.length
  n4 : rs.length ≤ 4
  asc : AscI ds
  rng : ∀ k ∈ ds, 0 ≤ k ∧ k < (rs.length : Int)
end Sd.Pu
namespace Sd.Pu
open PySem PySem.Spec PyProof.Rows L2
theorem Good.one {r : Rw} (h : OkRw r) : Good [r] [0] := ⟨fun x m => by rw [List.mem_singleton.mp m]; exact h, Nat.le_refl _, Nat.le_add_left 1 3, List.pairwise_singleton _ _, fun k m => by rw [List.mem_singleton.mp m]; exact ⟨Int.le_refl _, by show (0 : Int) < 1; decide⟩⟩
end Sd.Pu
namespace Sd.Pu
open PySem PySem.Spec PyProof.Rows L2
end Sd.Pu
namespace Sd.Pu
open PySem PySem.Spec PyProof.Rows L2
end Sd.Pu
namespace Sd.Pu
open PySem PySem.Spec PyProof.Rows L2
end Sd.Pu
namespace Sd.Pu
open PySem PySem.Spec PyProof.Rows L2
end Sd.Pu
namespace Sd.Pu
open PySem PySem.Spec PyProof.Rows L2
end Sd.Pu
namespace Sd.Pu
open PySem PySem.Spec PyProof.Rows L2
end Sd.Pu
namespace Sd.Pu
open PySem PySem.Spec PyProof.Rows L2
end Sd.Pu
namespace Sd.Pu
open PySem PySem.Spec PyProof.Rows L2
end Sd.Pu
namespace Sd.Pu
open PySem PySem.Spec PyProof.Rows L2
theorem at_of {xs : List PV} {n : Nat} (hn : xs.length = n) {r : Int} (h0 : 0 ≤ r) (h1 : r < n) : ∃ x, atI xs r = some x ∧ x ∈ xs := atI_int h0 (by rw [hn]; exact h1)
end Sd.Pu
namespace Sd.Pu
open PySem PySem.Spec PyProof.Rows L2
theorem set_strs2 (ws : List Str) (h : ws.length ≤ 1000) {v : PV} (hv : v = .lst (strsP ws) ∨ v = .tup (strsP ws)) : ∃ u, pSet [v] = some (.fz u) ∧ pSortedS [u] = some (.ow (.lst (strsP (uniq ws)))) := by
  rcases hv with rfl | rfl
  · exact set_strs ws h
  · obtain ⟨u, h1, h2⟩ := set_strs ws h
    refine ⟨.tset (allT ws), ?_, ?_⟩
    · show (match txtsOf (strsP ws) with
        | some ws => if ws.length ≤ 1000 then some (SV.fz (.tset (allT ws))) else none
        | none => none) = _
      rw [txtsOf_map]
      exact if_pos h
    · show some (SV.ow (.lst (strsP (uniq (allT ws))))) = _
      rw [uniq_allT]
theorem words_row {ws : List Str} (hz : ∀ z ∈ ws, IsName z) (few : ws.length ≤ 1000) {v : PV} (hv : v = .lst (strsP ws) ∨ v = .tup (strsP ws)) : F_words_of_row [.fz v] = some ([.no], .ok (.ow (.lst (strsP (uniq ws))))) := by
  obtain ⟨e1, q1, c1, rfl⟩ := loop_told (fg := fgName 1) (fb := lb1_words_of_row) PV.str (xs := ws) (fun i e => ∃ c1 : SV, e = [.fz v, c1]) (e0 := [.fz v, .no]) ⟨.no, rfl⟩ (by
    rintro i w e hw ⟨c1, rfl⟩
    have hn := is_name_eq (hz w (List.mem_of_getElem? hw))
    unfold lb1_words_of_row
    refine rBd (gV rfl s1_) <| rIf <| rNot <| rTru <| rCall <| rCons <| rL rfl <| kCons1 <| rL rfl <| kCons2 <| kCall (p_ yV pN) hn (bA rfl) <| kTru rfl rfl <| kNotT rfl <| kIfF rfl <| rL rfl <| ?_
    exact ⟨_, rfl⟩)
  obtain ⟨u, s1, s2⟩ := set_strs2 ws few hv
  unfold F_words_of_row
  rcases hv with rfl | rfl
  · have h0 := is_row_lst (strsP ws)
    (refine Runs.eq <| rFn R1_ A1_ <| rSeq <| rIf <| rTru <| rCB <| rCons <| rL rfl <| kCons1 <| rCons <| rL rfl <| kCons1 <| rL rfl <| kCons2 <| kCons2 <| kCB rfl rfl <| kTru rfl rfl <| kIfF rfl <| rL rfl <| rSeq <| rIf <| rNot <| rTru <| rCall <| rCons <| rL rfl <| kCons1 <| rL rfl <| kCons2 <| kCall (p_ yV pN) h0 (bA rfl) <| ?_; refine kTru rfl rfl <| kNotT rfl <| kIfF rfl <| rL rfl <| rSeq <| rFor <| riSeq <| rL rfl <| kiSeq yV rfl <| kFor <| rL q1 <| rRet <| rCB <| rCons <| rCB <| rCons <| rL rfl <| kCons1 <| rL rfl <| kCons2 <| kCB rfl s1 <| kCons1 <| rL rfl <| kCons2 <| kCB rfl s2 <| kRet tV <| ?_)
    rfl
  · have h0 := is_row_tup (strsP ws)
    (refine Runs.eq <| rFn R1_ A1_ <| rSeq <| rIf <| rTru <| rCB <| rCons <| rL rfl <| kCons1 <| rCons <| rL rfl <| kCons1 <| rL rfl <| kCons2 <| kCons2 <| kCB rfl rfl <| kTru rfl rfl <| kIfF rfl <| rL rfl <| rSeq <| rIf <| rNot <| rTru <| rCall <| rCons <| rL rfl <| kCons1 <| rL rfl <| kCons2 <| kCall (p_ yV pN) h0 (bA rfl) <| ?_; refine kTru rfl rfl <| kNotT rfl <| kIfF rfl <| rL rfl <| rSeq <| rFor <| riSeq <| rL rfl <| kiSeq yV rfl <| kFor <| rL q1 <| rRet <| rCB <| rCons <| rCB <| rCons <| rL rfl <| kCons1 <| rL rfl <| kCons2 <| kCB rfl s1 <| kCons1 <| rL rfl <| kCons2 <| kCB rfl s2 <| kRet tV <| ?_)
    rfl
def deedsP (ws : List Str) : PV := .ins "Deeds" [("kept", .lst (strsP ws))]
theorem deeds_init {ws : List Str} (hz : ∀ z ∈ ws, IsName z) (few : ws.length ≤ 1000) {v : PV} (hv : v = .lst (strsP ws) ∨ v = .tup (strsP ws)) : F_Deeds_init [.ow (.ins "Deeds" []), .fz v] = some ([.ow (deedsP (uniq ws)), .no], .ok (.fz .non)) := by
  have h := words_row hz few hv
  unfold F_Deeds_init
  refine Runs.eq <| rFn R0_ A2_ <| rFld <| rCall <| rCons <| rL rfl <| kCons1 <| rL rfl <| kCons2 <| kCall (p_ yV pN) h (bA rfl) <| kFld yO rfl rfl rfl rfl s0_ <| ?_
  rfl
theorem deeds_make {ws : List Str} (hz : ∀ z ∈ ws, IsName z) (few : ws.length ≤ 1000) {v : PV} (hv : v = .lst (strsP ws) ∨ v = .tup (strsP ws)) : mkF "Deeds" F_Deeds_init [] [.fz v] = some ([.no], .ok (.ow (deedsP (uniq ws)))) := by
  have q := deeds_init hz few hv
  unfold mkF
  show (match F_Deeds_init [.ow (.ins "Deeds" []), .fz v] with | some (s :: r, .ok (.fz .non)) => _ | some (_ :: r, .er x) => _ | _ => none) = _
  rw [q]; rfl
end Sd.Pu
namespace Sd.Pu
open PySem PySem.Spec PyProof.Rows L2
theorem nodup_addT {xs : List Str} {z : Str} (h : xs.Nodup) : (addT xs z).Nodup := by
  unfold addT
  by_cases c : z ∈ xs
  · first | (rw [if_pos c]; exact h) | (rw [if_pos (by simpa using c)]; exact h)
  · have nd : (z :: xs).Nodup := List.nodup_cons.mpr ⟨c, h⟩
    first | (rw [if_neg c]; exact nd) | (rw [if_neg (by simpa using c)]; exact nd)
theorem nodup_allT (xs : List Str) : (allT xs).Nodup := by
  have : ∀ (xs acc : List Str), acc.Nodup → (xs.foldl addT acc).Nodup := by
    intro xs
    induction xs with
    | nil => exact fun acc h => h
    | cons x t ih => exact fun acc h => ih _ (nodup_addT h)
  exact this xs [] List.nodup_nil
end Sd.Pu
namespace Sd.Pu
open PySem PySem.Spec PyProof.Rows L2
end Sd.Pu
namespace Sd.Pu
open PySem PySem.Spec PyProof.Rows L2
end Sd.Pu
namespace Sd.Pu
open PySem PySem.Spec PyProof.Rows L2
/-- a way: a move and the standing behind it -/
def wayP (rs : List Rw) (sts : List Int) (m : Move) : PV := .tup [moveP m, standP (behindOf rs sts m.2)]
end Sd.Pu
namespace Sd.Gr
universe u
variable {α : Type} [DecidableEq α]
inductive Rch (e : α → List α) : α → α → Prop
  | refl (a : α) : Rch e a a
  | step {a b c : α} : b ∈ e a → Rch e b c → Rch e a c
variable {e : α → List α}
theorem Rch.trans {a b c : α} (h : Rch e a b) (k : Rch e b c) : Rch e a c := by
  induction h with
  | refl => exact k
  | step h _ ih => exact .step h (ih k)
theorem Rch.one {a b : α} (h : b ∈ e a) : Rch e a b := .step h (.refl b)
theorem Rch.snoc {a b c : α} (h : Rch e a b) (k : c ∈ e b) : Rch e a c := h.trans (.one k)
/-- closed sets hold what is reached -/
theorem Rch.closed {S : α → Prop} (hS : ∀ a, S a → ∀ b ∈ e a, S b) {a b : α} (h : Rch e a b) (ha : S a) : S b := by
  induction h with
  | refl => exact ha
  | step h _ ih => exact ih (hS _ ha _ h)
/-- reaching within a set (the last one, too) -/
inductive RchIn (e : α → List α) (Q : α → Prop) : α → α → Prop
  | refl {a : α} : Q a → RchIn e Q a a
  | step {a b c : α} : Q a → b ∈ e a → RchIn e Q b c → RchIn e Q a c
theorem RchIn.rch {Q : α → Prop} {a b : α} (h : RchIn e Q a b) : Rch e a b := by
  induction h with
  | refl => exact .refl _
  | step _ h _ ih => exact .step h ih
theorem RchIn.mono {Q R : α → Prop} (k : ∀ a, Q a → R a) {a b : α} (h : RchIn e Q a b) : RchIn e R a b := by
  induction h with
  | refl h => exact .refl (k _ h)
  | step q h _ ih => exact .step (k _ q) h ih
theorem RchIn.trans {Q : α → Prop} {a b c : α} (h : RchIn e Q a b) (k : RchIn e Q b c) : RchIn e Q a c := by
  induction h with
  | refl => exact k
  | step q h _ ih => exact .step q h (ih k)
/-- what holds in the middle of the walk: N all nodes, ord those that were left, st the stack (the top comes last) with the places of the next moves, ent those that were entered -/
structure Dfs (N : List α) (e : α → List α) (ent ord : List α) (st : List (α × Nat)) : Prop where
  inN : ∀ a ∈ ent, a ∈ N
  nd : ent.Nodup
  mem : ∀ a, a ∈ ent ↔ a ∈ ord ∨ a ∈ st.map (·.1)
  ndo : (ord ++ st.map (·.1)).Nodup
  low : (st.map (·.1)).Pairwise (Rch e)
  at_ : ∀ p ∈ st, p.2 ≤ (e p.1).length ∧ ∀ j, j < p.2 → ∀ b, (e p.1)[j]? = some b → b ∈ ent
  ed : ∀ u ∈ ord, ∀ w ∈ e u, (w ∈ ord ∧ ∀ x ∈ ord, ord.idxOf u ≤ ord.idxOf x → ord.idxOf x ≤ ord.idxOf w → Rch e w x) ∨
    (w ∈ st.map (·.1) ∧ ∀ x ∈ ord, ord.idxOf u ≤ ord.idxOf x → Rch e w x)
theorem idx_old {l : List α} {a x : α} (h : a ∈ l) : (l ++ [x]).idxOf a = l.idxOf a := by rw [List.idxOf_append, if_pos h]
theorem idx_new {l : List α} {x : α} (h : x ∉ l) : (l ++ [x]).idxOf x = l.length := by rw [List.idxOf_append, if_neg h]; simp
theorem idx_lt {l : List α} {a : α} (h : a ∈ l) : l.idxOf a < l.length := List.idxOf_lt_length_of_mem h
theorem Dfs.nil (N : List α) (e : α → List α) : Dfs N e [] [] [] := ⟨by simp, by simp, by simp, by simp, by simp, by simp, by simp⟩
/-- the next move leads to a node that was entered -/
theorem Dfs.next {N ent ord : List α} {st : List (α × Nat)} {a b : α} {i : Nat} (h : Dfs N e ent ord (st ++ [(a, i)])) (hb : (e a)[i]? = some b) (he : b ∈ ent) : Dfs N e ent ord (st ++ [(a, i + 1)]) := by
  obtain ⟨i1, i2, i3, i4, i5, i6, i7⟩ := h
  have em : (st ++ [(a, i + 1)]).map (·.1) = (st ++ [(a, i)]).map (·.1) := by simp
  refine ⟨i1, i2, by rw [em]; exact i3, by rw [em]; exact i4, by rw [em]; exact i5, ?_, by rw [em]; exact i7⟩
  intro p hp
  rcases List.mem_append.mp hp with z | z
  · exact i6 p (List.mem_append_left _ z)
  · rw [List.mem_singleton.mp z]
    obtain ⟨k1, k2⟩ := i6 (a, i) (by simp)
    have il := (List.getElem?_eq_some_iff.mp hb).1
    refine ⟨il, fun j hj c hc => ?_⟩
    by_cases q : j = i
    · subst q
      rw [show (e a)[j]? = some c from hc] at hb
      cases hb; exact he
    · exact k2 j (by simp at hj ⊢; omega) c hc
/-- the next move leads to a new node -/
theorem Dfs.push {N ent ord : List α} {st : List (α × Nat)} {a b : α} {i : Nat} (h : Dfs N e ent ord (st ++ [(a, i)])) (hb : (e a)[i]? = some b) (he : b ∉ ent) (hN : b ∈ N) : Dfs N e (ent ++ [b]) ord (st ++ [(a, i + 1)] ++ [(b, 0)]) := by
  obtain ⟨i1, i2, i3, i4, i5, i6, i7⟩ := h
  have em : (st ++ [(a, i + 1)] ++ [(b, 0)]).map (fun p : α × Nat => p.1) = (st ++ [(a, i)]).map (fun p : α × Nat => p.1) ++ [b] := by simp
  have hab : b ∈ e a := List.mem_of_getElem? hb
  have hbo : b ∉ ord := fun z => he ((i3 b).mpr (.inl z))
  have hbs : b ∉ (st ++ [(a, i)]).map (·.1) := fun z => he ((i3 b).mpr (.inr z))
  refine ⟨?_, ?_, ?_, ?_, ?_, ?_, ?_⟩
  · intro c hc
    rcases List.mem_append.mp hc with z | z
    · exact i1 c z
    · rw [List.mem_singleton.mp z]; exact hN
  · exact List.nodup_append.mpr ⟨i2, by simp, fun c hc d hd z => he (by rw [List.mem_singleton.mp hd] at z; exact z ▸ hc)⟩
  · intro c; rw [em, List.mem_append, List.mem_append, i3 c, or_assoc]
  · rw [em, ← List.append_assoc]
    refine List.nodup_append.mpr ⟨i4, by simp, ?_⟩
    intro c hc d hd z
    rw [List.mem_singleton.mp hd] at z; subst z
    rcases List.mem_append.mp hc with z | z
    · exact hbo z
    · exact hbs z
  · rw [em]
    refine List.pairwise_append.mpr ⟨i5, by simp, ?_⟩
    intro c hc d hd
    rw [List.mem_singleton.mp hd]
    rw [List.map_append, List.mem_append] at hc
    rcases hc with z | z
    · have := (List.pairwise_append.mp (by rw [List.map_append] at i5; exact i5)).2.2 c z a (by simp)
      exact this.snoc hab
    · have : c = a := by simpa using z
      rw [this]; exact .one hab
  · intro p hp
    rcases List.mem_append.mp hp with z | z
    · rcases List.mem_append.mp z with y | y
      · obtain ⟨k1, k2⟩ := i6 p (List.mem_append_left _ y)
        exact ⟨k1, fun j hj c hc => List.mem_append_left _ (k2 j hj c hc)⟩
      · rw [List.mem_singleton.mp y]
        obtain ⟨k1, k2⟩ := i6 (a, i) (by simp)
        have il := (List.getElem?_eq_some_iff.mp hb).1
        refine ⟨il, fun j hj c hc => ?_⟩
        by_cases q : j = i
        · subst q
          rw [show (e a)[j]? = some c from hc] at hb
          cases hb; simp
        · exact List.mem_append_left _ (k2 j (by simp at hj ⊢; omega) c hc)
    · rw [List.mem_singleton.mp z]
      exact ⟨Nat.zero_le _, fun j hj => absurd hj (Nat.not_lt_zero _)⟩
  · intro u hu w hw
    rcases i7 u hu w hw with z | z
    · exact .inl z
    · exact .inr ⟨by rw [em]; exact List.mem_append_left _ z.1, z.2⟩
/-- the order when the walk is at its end -/
structure Left (N : List α) (e : α → List α) (ord : List α) : Prop where
  nd : ord.Nodup
  mem : ∀ a, a ∈ ord ↔ a ∈ N
  ed : ∀ u ∈ ord, ∀ w ∈ e u, w ∈ ord ∧ ∀ x ∈ ord, ord.idxOf u ≤ ord.idxOf x → ord.idxOf x ≤ ord.idxOf w → Rch e w x
theorem Dfs.left {N ent ord : List α} (h : Dfs N e ent ord []) (all : ∀ a ∈ N, a ∈ ent) : Left N e ord := by
  obtain ⟨i1, i2, i3, i4, i5, i6, i7⟩ := h
  simp only [List.map_nil, List.append_nil, List.not_mem_nil, or_false, false_and] at i3 i4 i7
  exact ⟨i4, fun a => ⟨fun z => i1 a ((i3 a).mpr z), fun z => (i3 a).mp (all a z)⟩, i7⟩
/-- parts that are strongly connected, in an order in which all moves lead on -/
structure Parts (N : List α) (e : α → List α) (ps : List (List α)) : Prop where
  nd : ps.flatten.Nodup
  mem : ∀ a, a ∈ ps.flatten ↔ a ∈ N
  ne : ∀ p ∈ ps, p ≠ []
  str : ∀ p ∈ ps, ∀ a ∈ p, ∀ b ∈ p, Rch e a b
  on : ∀ (i j : Nat) (p q : List α), ps[i]? = some p → ps[j]? = some q → ∀ a ∈ p, ∀ b ∈ q, b ∈ e a → i ≤ j
/-- in the middle: the parts found so far, closed backwards -/
structure Half (N : List α) (e : α → List α) (pl : List α) (ps : List (List α)) : Prop where
  fl : ps.flatten = pl
  nd : pl.Nodup
  inN : ∀ a ∈ pl, a ∈ N
  ne : ∀ p ∈ ps, p ≠ []
  str : ∀ p ∈ ps, ∀ a ∈ p, ∀ b ∈ p, Rch e a b
  on : ∀ (i j : Nat) (p q : List α), ps[i]? = some p → ps[j]? = some q → ∀ a ∈ p, ∀ b ∈ q, b ∈ e a → i ≤ j
  cl : ∀ a ∈ N, ∀ b ∈ pl, b ∈ e a → a ∈ pl
theorem Half.nil (N : List α) (e : α → List α) : Half N e [] [] := ⟨rfl, by simp, by simp, by simp, by simp, by simp, by simp⟩
/-- a part that was gathered backwards from a root -/
structure Gath (N : List α) (e : α → List α) (pl : List α) (r : α) (p : List α) : Prop where
  nd : p.Nodup
  out : ∀ a ∈ p, a ∈ N ∧ a ∉ pl
  root : r ∈ p
  bk : ∀ a ∈ p, RchIn e (fun x => x ∈ p) a r
theorem Half.all {N pl : List α} {ps : List (List α)} (h : Half N e pl ps) (all : ∀ a ∈ N, a ∈ pl) : Parts N e ps := ⟨by rw [h.fl]; exact h.nd, fun a => by rw [h.fl]; exact ⟨h.inN a, all a⟩, h.ne, h.str, h.on⟩
/-- the steps of gathering -/
theorem Gath.start {N pl : List α} {r : α} (hr : r ∈ N) (hn : r ∉ pl) : Gath N e pl r [r] := ⟨by simp, fun a ha => by rw [List.mem_singleton.mp ha]; exact ⟨hr, hn⟩, by simp, fun a ha => by rw [List.mem_singleton.mp ha]; exact .refl (by simp)⟩
theorem part_uniq {x : α} : ∀ (l : List (List α)), l.flatten.Nodup → ∀ (i j : Nat) (p q : List α), l[i]? = some p → l[j]? = some q → x ∈ p → x ∈ q → i = j
  | [], _, i, j, p, q, h, _, _, _ => by simp at h
  | z :: l, nd, i, j, p, q, h1, h2, x1, x2 => by
    rw [List.flatten_cons] at nd
    have nd' := List.nodup_append.mp nd
    cases i with
    | zero =>
      cases j with
      | zero => rfl
      | succ j =>
        simp at h1 h2; subst h1
        exact absurd rfl (nd'.2.2 x x1 x (List.mem_flatten.mpr ⟨q, List.mem_of_getElem? h2, x2⟩))
    | succ i =>
      cases j with
      | zero =>
        simp at h1 h2; subst h2
        exact absurd rfl (nd'.2.2 x x2 x (List.mem_flatten.mpr ⟨p, List.mem_of_getElem? h1, x1⟩))
      | succ j =>
        simp at h1 h2
        rw [part_uniq l nd'.2.1 i j p q h1 h2 x1 x2]
theorem Parts.part {N : List α} {ps : List (List α)} (P : Parts N e ps) {x : α} (hx : x ∈ N) : ∃ (j : Nat) (q : List α), ps[j]? = some q ∧ x ∈ q := by
  obtain ⟨q, hq, hx⟩ := List.mem_flatten.mp ((P.mem x).mpr hx)
  obtain ⟨j, hj⟩ := List.getElem?_of_mem hq
  exact ⟨j, q, hj, hx⟩
theorem Parts.up {N : List α} {ps : List (List α)} (P : Parts N e ps) (hN : ∀ a ∈ N, ∀ b ∈ e a, b ∈ N) {x y : α} (h : Rch e x y) : ∀ (j : Nat) (q : List α), ps[j]? = some q → x ∈ q → x ∈ N → ∀ (j' : Nat) (q' : List α), ps[j']? = some q' → y ∈ q' → j ≤ j' := by
  induction h with
  | refl x =>
    intro j q hj hx hxN j' q' hj' hx'
    rw [part_uniq ps P.nd j j' q q' hj hj' hx hx']
    exact Nat.le_refl _
  | @step x y z hxy _ ih =>
    intro j q hj hx hxN j' q' hj' hz
    obtain ⟨k, r, hk, hy⟩ := P.part (hN x hxN y hxy)
    have := P.on j k q r hj hk x hx y hy hxy
    have := ih k r hk hy (hN x hxN y hxy) j' q' hj' hz
    omega
/-- within a part all ways stay -/
theorem Parts.whole {N : List α} {ps : List (List α)} (P : Parts N e ps) (hN : ∀ a ∈ N, ∀ b ∈ e a, b ∈ N) {p : List α} (hp : p ∈ ps) {a b : α} (ha : a ∈ p) (hb : b ∈ p) : RchIn e (fun x => x ∈ p) a b := by
  obtain ⟨i, hi⟩ := List.getElem?_of_mem hp
  have inN : ∀ x ∈ p, x ∈ N := fun x hx => (P.mem x).mp (List.mem_flatten.mpr ⟨p, hp, hx⟩)
  have walk : ∀ {x y}, Rch e x y → x ∈ p → y ∈ p → RchIn e (fun z => z ∈ p) x y := by
    intro x y h
    induction h with
    | refl x => intro hx _; exact .refl hx
    | @step x y z hxy hyz ih =>
      intro hx hz
      obtain ⟨k, r, hk, hy⟩ := P.part (hN x (inN x hx) y hxy)
      have h1 := P.on i k p r hi hk x hx y hy hxy
      have h2 := P.up hN hyz k r hk hy (hN x (inN x hx) y hxy) i p hi hz
      have : k = i := by omega
      subst this
      rw [hi] at hk; cases hk
      exact .step hx hxy (ih hy hz)
  exact walk (P.str p hp a ha b hb) ha hb
/-- who reaches one another is in one part -/
theorem Parts.same {N : List α} {ps : List (List α)} (P : Parts N e ps) (hN : ∀ a ∈ N, ∀ b ∈ e a, b ∈ N) {p : List α} (hp : p ∈ ps) {a b : α} (ha : a ∈ p) (h1 : Rch e a b) (h2 : Rch e b a) : b ∈ p := by
  obtain ⟨i, hi⟩ := List.getElem?_of_mem hp
  have aN : a ∈ N := (P.mem a).mp (List.mem_flatten.mpr ⟨p, hp, ha⟩)
  have bN : b ∈ N := h1.closed (S := fun x => x ∈ N) hN aN
  obtain ⟨k, r, hk, hb⟩ := P.part bN
  have u1 := P.up hN h1 i p hi ha aN k r hk hb
  have u2 := P.up hN h2 k r hk hb bN i p hi ha
  have : k = i := by omega
  subst this
  rw [hi] at hk; cases hk
  exact hb
end Sd.Gr
namespace Sd.Gr
variable {α μ : Type} [DecidableEq α]
inductive Way (s : α → List (μ × α)) : α → List μ → α → Prop
  | nil (a : α) : Way s a [] a
  | cons {a b c : α} {m : μ} {ms : List μ} : (m, b) ∈ s a → Way s b ms c → Way s a (m :: ms) c
/-- the nodes behind the moves -/
def nx (s : α → List (μ × α)) (a : α) : List α := (s a).map (·.2)
variable {s : α → List (μ × α)}
theorem mem_nx {a b : α} : b ∈ nx s a ↔ ∃ m, (m, b) ∈ s a := by
  unfold nx
  rw [List.mem_map]
  exact ⟨fun ⟨⟨m, b'⟩, h, e⟩ => ⟨m, by cases e; exact h⟩, fun ⟨m, h⟩ => ⟨(m, b), h, rfl⟩⟩
theorem Way.app {a b c : α} {ms ns : List μ} (h : Way s a ms b) (k : Way s b ns c) : Way s a (ms ++ ns) c := by
  induction h with
  | nil => exact k
  | cons h _ ih => exact .cons h (ih k)
theorem Way.snoc {a b c : α} {m : μ} {ms : List μ} (h : Way s a ms b) (k : (m, c) ∈ s b) : Way s a (ms ++ [m]) c := h.app (.cons k (.nil c))
theorem Way.rch {a b : α} {ms : List μ} (h : Way s a ms b) : Rch (nx s) a b := by
  induction h with
  | nil => exact .refl _
  | cons h _ ih => exact .step (mem_nx.mpr ⟨_, h⟩) ih
theorem Rch.way {a b : α} (h : Rch (nx s) a b) : ∃ ms, Way s a ms b := by
  induction h with
  | refl => exact ⟨[], .nil _⟩
  | step h _ ih =>
    obtain ⟨m, h⟩ := mem_nx.mp h
    obtain ⟨ms, k⟩ := ih
    exact ⟨m :: ms, .cons h k⟩
theorem Way.mono {t : α → List (μ × α)} (k : ∀ a, ∀ p ∈ s a, p ∈ t a) {a b : α} {ms : List μ} (h : Way s a ms b) : Way t a ms b := by
  induction h with
  | nil => exact .nil _
  | cons h _ ih => exact .cons (k _ _ h) ih
theorem Way.closed {S : α → Prop} (hS : ∀ a, S a → ∀ p ∈ s a, S p.2) {a b : α} {ms : List μ} (h : Way s a ms b) (ha : S a) : S b := by
  induction h with
  | nil => exact ha
  | cons h _ ih => exact ih (hS _ ha _ h)
/-- in the middle of the search: W the nodes met, the first i of them asked; par: whence -/
structure Bfs (s : α → List (μ × α)) (N : List α) (r : α) (W : List α) (i : Nat) (par : α → Option (α × μ)) : Prop where
  le : i ≤ W.length
  nd : W.Nodup
  inN : ∀ a ∈ W, a ∈ N
  hd : W[0]? = some r
  pr : par r = none
  pa : ∀ a ∈ W, a = r ∨ ∃ b m, par a = some (b, m) ∧ (m, a) ∈ s b ∧ b ∈ W ∧ W.idxOf b < W.idxOf a
  cl : ∀ (j : Nat) a, j < i → W[j]? = some a → ∀ p ∈ s a, p.2 ∈ W
def upF {β : Type} (f : α → β) (a : α) (x : β) : α → β := fun b => if b = a then x else f b
theorem upF_eq {β : Type} {f : α → β} {a : α} {x : β} : upF f a x a = x := if_pos rfl
theorem upF_ne {β : Type} {f : α → β} {a b : α} {x : β} (h : b ≠ a) : upF f a x b = f b := if_neg h
theorem Bfs.start {N : List α} {r : α} (hr : r ∈ N) {par : α → Option (α × μ)} (hp : par r = none) : Bfs s N r [r] 0 par := ⟨Nat.zero_le _, by simp, fun a ha => by rw [List.mem_singleton.mp ha]; exact hr, rfl, hp, fun a ha => .inl (List.mem_singleton.mp ha), fun j a hj => absurd hj (Nat.not_lt_zero _)⟩
theorem Bfs.mem {N W : List α} {r : α} {i : Nat} {par : α → Option (α × μ)} (B : Bfs s N r W i par) : r ∈ W := List.mem_of_getElem? B.hd
/-- a new node -/
theorem Bfs.push {N W : List α} {r a b : α} {i : Nat} {m : μ} {par : α → Option (α × μ)} (B : Bfs s N r W i par) (ha : a ∈ W) (hm : (m, b) ∈ s a) (hb : b ∉ W) (hN : b ∈ N) : Bfs s N r (W ++ [b]) i (upF par b (some (a, m))) := by
  have rb : r ≠ b := fun z => hb (z ▸ B.mem)
  refine ⟨by have := B.le; simp; omega, List.nodup_append.mpr ⟨B.nd, by simp, fun x hx y hy z => hb (by rw [List.mem_singleton.mp hy] at z; exact z ▸ hx)⟩, ?_, ?_, ?_, ?_, ?_⟩
  · intro x hx
    rcases List.mem_append.mp hx with z | z
    · exact B.inN x z
    · rw [List.mem_singleton.mp z]; exact hN
  · have := B.hd
    rw [List.getElem?_append_left (by cases W with | nil => simp at this | cons _ _ => simp)]; exact this
  · rw [upF_ne rb]; exact B.pr
  · intro x hx
    rcases List.mem_append.mp hx with z | z
    · have xb : x ≠ b := fun q => hb (q ▸ z)
      rcases B.pa x z with h | ⟨c, n, h1, h2, h3, h4⟩
      · exact .inl h
      · exact .inr ⟨c, n, by rw [upF_ne xb]; exact h1, h2, List.mem_append_left _ h3, by rw [idx_old h3, idx_old z]; exact h4⟩
    · rw [List.mem_singleton.mp z]
      exact .inr ⟨a, m, upF_eq, hm, List.mem_append_left _ ha, by rw [idx_old ha, idx_new hb]; exact idx_lt ha⟩
  · intro j x hj hx p hp
    rw [List.getElem?_append] at hx
    split at hx
    · exact List.mem_append_left _ (B.cl j x hj hx p hp)
    · have := B.le
      omega
/-- all behind the one at i are met -/
theorem Bfs.next {N W : List α} {r a : α} {i : Nat} {par : α → Option (α × μ)} (B : Bfs s N r W i par) (ha : W[i]? = some a) (h : ∀ p ∈ s a, p.2 ∈ W) : Bfs s N r W (i + 1) par := by
  refine ⟨(List.getElem?_eq_some_iff.mp ha).1, B.nd, B.inN, B.hd, B.pr, B.pa, fun j x hj hx p hp => ?_⟩
  by_cases q : j = i
  · subst q
    rw [ha] at hx; cases hx
    exact h p hp
  · exact B.cl j x (by omega) hx p hp
/-- all asked: what is reached is met -/
theorem Bfs.all {N W : List α} {r : α} {i : Nat} {par : α → Option (α × μ)} (B : Bfs s N r W i par) (hi : W.length ≤ i) {b : α} (h : Rch (nx s) r b) : b ∈ W :=
  h.closed (S := fun x => x ∈ W) (fun a ha b hb => by
    obtain ⟨m, hm⟩ := mem_nx.mp hb
    obtain ⟨j, hj⟩ := List.getElem?_of_mem ha
    exact B.cl j a (by have := (List.getElem?_eq_some_iff.mp hj).1; omega) hj _ hm) B.mem
/-- what is met is reached -/
theorem Bfs.way {N W : List α} {r : α} {i : Nat} {par : α → Option (α × μ)} (B : Bfs s N r W i par) : ∀ (n : Nat) (a : α), a ∈ W → W.idxOf a ≤ n → Rch (nx s) r a
  | n, a, ha, hn => by
    rcases B.pa a ha with h | ⟨b, m, h1, h2, h3, h4⟩
    · rw [h]; exact .refl _
    · cases n with
      | zero => omega
      | succ n => exact (B.way n b h3 (by omega)).snoc (mem_nx.mpr ⟨m, h2⟩)
theorem Bfs.rch {N W : List α} {r : α} {i : Nat} {par : α → Option (α × μ)} (B : Bfs s N r W i par) {a : α} (ha : a ∈ W) : Rch (nx s) r a := B.way _ a ha (Nat.le_refl _)
/-- a goal that can be reached is not yet among the asked ones: the next one is there -/
theorem Bfs.there {N W : List α} {r g : α} {i : Nat} {par : α → Option (α × μ)} (B : Bfs s N r W i par) (h : Rch (nx s) r g) (hg : ∀ (j : Nat) a, j < i → W[j]? = some a → a ≠ g) : ∃ a, W[i]? = some a := by
  by_cases q : i < W.length
  · exact ⟨_, List.getElem?_eq_getElem q⟩
  · have gW := B.all (by omega) h
    obtain ⟨j, hj⟩ := List.getElem?_of_mem gW
    exact absurd rfl (hg j g (by have := (List.getElem?_eq_some_iff.mp hj).1; omega) hj)
end Sd.Gr
namespace Sd.Pu
open PySem PySem.Spec PyProof.Rows L2 Sd.Gr
theorem at_some {β : Type} {xs : List β} {i : Nat} {x : β} (h : xs[i]? = some x) : atI xs (i : Nat) = some x := by
  obtain ⟨hl, rfl⟩ := List.getElem?_eq_some_iff.mp h
  exact atI_lt hl
theorem at_map {β γ : Type} {f : β → γ} {xs : List β} {i : Nat} {x : β} (h : xs[i]? = some x) : atI (xs.map f) (i : Nat) = some (f x) := at_some (by rw [List.getElem?_map, h]; rfl)
structure Enc (α : Type) where
  nd : α → PV
  ky : α → NestedKey
  hk : ∀ a, keyP (nd a) = some (ky a)
  inj : ∀ a b, ky a = ky b → a = b
section
variable {α : Type} [DecidableEq α] {E : Enc α} {N : List α} {a b : α} {f f' : α → PV} {g : α → List PV} {x y : PV}
theorem Enc.nk (E : Enc α) (a : α) : nkOf (E.nd a) = some (E.ky a) := (keyP_inv (E.hk a)).2.1
theorem Enc.tup (E : Enc α) (a : α) : ∃ xs, E.nd a = .tup xs := (keyP_inv (E.hk a)).1
theorem Enc.frz (E : Enc α) (a : α) : frzB (E.nd a) = false := by obtain ⟨xs, h⟩ := E.tup a; rw [h]; rfl
theorem Enc.dec (E : Enc α) (a b : α) : decide (nkOf (E.nd a) = some (E.ky b)) = decide (a = b) := by
  rw [E.nk, decide_eq_decide]
  exact ⟨fun h => E.inj _ _ (Option.some.inj h), fun h => by rw [h]⟩
@[irreducible] def dictP (E : Enc α) (N : List α) (f : α → PV) : List (PV × PV) := N.map fun a => (E.nd a, f a)
theorem dict_un : dictP E N f = N.map fun a => (E.nd a, f a) := by rw [dictP]
theorem dict_nil : dictP E [] f = [] := by rw [dict_un]; rfl
theorem dict_len : (dictP E N f).length = N.length := by rw [dict_un, List.length_map]
theorem dict_congr (h : ∀ a ∈ N, f a = f' a) : dictP E N f = dictP E N f' := by
  rw [dict_un, dict_un]
  exact List.map_congr_left fun a ha => by rw [h a ha]
theorem look_dict (a : α) : Sd.lookM (dictP E N f) (E.ky a) = if a ∈ N then some (f a) else none := by
  rw [dict_un]
  unfold Sd.lookM
  induction N with
  | nil => rfl
  | cons b N ih =>
    rw [List.map_cons, List.find?_cons]
    rw [E.dec b a]
    by_cases h : b = a
    · subst h
      rw [decide_eq_true rfl, if_pos List.mem_cons_self]; rfl
    · rw [decide_eq_false h]
      dsimp only
      rw [ih]
      have : (a ∈ b :: N) ↔ a ∈ N := by rw [List.mem_cons]; exact ⟨fun z => z.resolve_left fun q => h q.symm, .inr⟩
      simp only [this]
theorem look_in (h : a ∈ N) : Sd.lookM (dictP E N f) (E.ky a) = some (f a) := by rw [look_dict, if_pos h]
theorem look_out (h : a ∉ N) : Sd.lookM (dictP E N f) (E.ky a) = none := by rw [look_dict, if_neg h]
theorem in_dict (a : α) : pInB (E.nd a) (.map (dictP E N f)) = some (decide (a ∈ N)) := by
  show (keyP (E.nd a)).map (fun k => (Sd.lookM (dictP E N f) k).isSome) = _
  rw [E.hk]
  show some (Sd.lookM (dictP E N f) (E.ky a)).isSome = _
  rw [look_dict]
  by_cases h : a ∈ N
  · rw [if_pos h, decide_eq_true h]; rfl
  · rw [if_neg h, decide_eq_false h]; rfl
theorem ix_dict (h : a ∈ N) : pIx (.map (dictP E N f)) (E.nd a) = some (.fz (f a)) := by
  show (keyP (E.nd a)).bind (fun k => (Sd.lookM (dictP E N f) k).map SV.fz) = _
  rw [E.hk, Option.bind_some, look_in h]; rfl
theorem put_new (h : a ∉ N) : putM (dictP E N f) (E.nd a) (E.ky a) x = dictP E (N ++ [a]) (upF f a x) := by
  unfold putM
  rw [look_out h, dict_un, dict_un, if_neg (by intro z; cases z), List.map_append]
  congr 1
  · refine List.map_congr_left fun b hb => ?_
    rw [upF_ne (b := b) (a := a) fun z => h (z ▸ hb)]
  · show [(E.nd a, x)] = [(E.nd a, upF f a x a)]
    rw [upF_eq]
end
section
variable {α : Type} [DecidableEq α]
/-- a move and the node behind it -/
def edgeP (E : Enc α) (p : Move × α) : PV := .tup [moveP p.1, E.nd p.2]
abbrev waysP (E : Enc α) (ws : List (Move × α)) : PV := .lst (ws.map (edgeP E))
abbrev graphP (E : Enc α) (N : List α) (s : α → List (Move × α)) : List (PV × PV) := dictP E N fun a => waysP E (s a)
/-- does a move take a hand along -/
def takesH (m : Move) (h : Nat) : Bool := (m.2[h]?.getD none).isSome
end
end Sd.Pu
namespace Sd.Pu
open PySem PySem.Spec PyProof.Rows L2 Sd.Gr
section
variable {α : Type} [DecidableEq α] {E : Enc α} {s : α → List (Move × α)} {NN W : List α} {r : α} {i : Nat} {par : α → Option (α × Move)}
def parP (E : Enc α) (par : α → Option (α × Move)) (a : α) : PV := match par a with
  | none => .non
  | some (b, m) => .tup [E.nd b, moveP m]
theorem parP_none {a : α} (h : par a = none) : parP E par a = .non := by unfold parP; rw [h]
theorem parP_some {a b : α} {m : Move} (h : par a = some (b, m)) : parP E par a = .tup [E.nd b, moveP m] := by unfold parP; rw [h]
theorem par_put {a b : α} {m : Move} (h : b ∉ W) : putM (dictP E W (parP E par)) (E.nd b) (E.ky b) (.tup [E.nd a, moveP m]) = dictP E (W ++ [b]) (parP E (upF par b (some (a, m)))) := by
  rw [put_new h]
  refine dict_congr fun c _ => ?_
  by_cases q : c = b
  · subst q
    rw [upF_eq, parP_some upF_eq]
  · rw [upF_ne q]
    unfold parP
    rw [upF_ne q]
def lenAt (i : Nat) (e : Ev) : Nat := match e[i]? with
  | some (.ow (.lst xs)) => xs.length
  | _ => 0
def intAt (i : Nat) (e : Ev) : Nat := match e[i]? with
  | some (SV.fz (PV.int j)) => j.toNat
  | _ => 0
theorem back_eq (B : Bfs s NN r W i par) (few : W.length ≤ 100000) {a : α} (ha : a ∈ W) : ∃ ms, F_moves_back [.fz (.map (dictP E W (parP E par))), .fz (E.nd a)] = some ([.no, .no], .ok (.ow (.lst (ms.map moveP)))) ∧ Way s r ms a ∧ ms.length ≤ W.idxOf a := by
  obtain ⟨e', h1, ms, c3, rfl, hw, hl⟩ := while_ind (ft := wc1_moves_back) (fb := wb1_moves_back) (fun e => ∃ (b : α) (ms : List Move) (c3 : SV), e = [.fz (.map (dictP E W (parP E par))), .fz (E.nd b), .ow (.lst (ms.map moveP)), c3] ∧ b ∈ W ∧ Way s b ms.reverse a ∧ W.idxOf b + ms.length ≤ W.idxOf a) (fun e => W.length + 1 - lenAt 2 e)
    (fun e => ∃ (ms : List Move) (c3 : SV), e = [.fz (.map (dictP E W (parP E par))), .fz (E.nd r), .ow (.lst (ms.map moveP)), c3] ∧ Way s r ms.reverse a ∧ ms.length ≤ W.idxOf a) (by
    rintro e ⟨b, ms, c3, rfl, hb, hw, hl⟩
    have k1 := E.hk b
    have k2 : pIx (.map (dictP E W (parP E par))) (E.nd b) = some (.fz (parP E par b)) := ix_dict hb
    have la := idx_lt ha
    rcases B.pa b hb with hbr | ⟨c, m, p1, p2, p3, p4⟩
    · right
      rw [hbr, parP_none B.pr, ← hbr] at k2
      refine ⟨[.fz (.map (dictP E W (parP E par))), .fz (E.nd b), .ow (.lst (ms.map moveP)), c3], ?_, ms, c3, by rw [hbr], hbr ▸ hw, by omega⟩
      unfold wc1_moves_back
      refine Runs.eq <| rTest <| rOp <| rOp <| rL rfl <| kOp1 <| rL rfl <| kOp2 rfl rfl k2 <| kOp1 <| rL rfl <| kOp2 rfl rfl rfl <| kTest rfl <| ?_
      rfl
    · left
      rw [parP_some p1] at k2
      have few2 : ms.length ≤ 100000 := by omega
      have em : (ms ++ [m]).map moveP = ms.map moveP ++ [moveP m] := List.map_append
      refine ⟨[.fz (.map (dictP E W (parP E par))), .fz (E.nd b), .ow (.lst (ms.map moveP)), c3], [.fz (.map (dictP E W (parP E par))), .fz (E.nd c), .ow (.lst ((ms ++ [m]).map moveP)), .fz (moveP m)], ?_, .inl ?_, ⟨c, ms ++ [m], _, rfl, p3, ?_, ?_⟩, ?_⟩
      · unfold wc1_moves_back
        refine Runs.eq <| rTest <| rOp <| rOp <| rL rfl <| kOp1 <| rL rfl <| kOp2 rfl rfl k2 <| kOp1 <| rL rfl <| kOp2 rfl rfl rfl <| kTest rfl <| ?_
        rfl
      · unfold wb1_moves_back
        refine Runs.eq <| rSeq <| rAsg <| rOp <| rL rfl <| kOp1 <| rL rfl <| kOp2 rfl rfl k2 <| kAsg (gT rfl rfl (gC (gV rfl s1_) (gC (gV rfl s3_) gN))) <| rDrop <| rMut rfl <| rCons <| rL rfl <| kCons1 <| rL rfl <| kCons2 <| kMut (z_ yV zN) rfl (appI (szLt (by (try simp only [List.length_map, List.length_append, List.length_cons, List.length_nil, List.length_range]); omega))) s2_ <| kDrop <| ?_
        rw [em] <;> rfl
      · rw [List.reverse_append]
        exact .cons p2 hw
      · simp; omega
      · show W.length + 1 - ((ms ++ [m]).map moveP).length < W.length + 1 - (ms.map moveP).length
        simp; omega)
    bigN [.fz (.map (dictP E W (parP E par))), .fz (E.nd a), .ow (.lst (([] : List Move).map moveP)), .no] (by rw [bigN_eq]; show W.length + 1 - 0 < _; omega) ⟨a, [], .no, rfl, ha, .nil _, by simp⟩
  refine ⟨ms.reverse, ?_, hw, by rw [List.length_reverse]; exact hl⟩
  have er : (ms.reverse).map moveP = (ms.map moveP).reverse := List.map_reverse
  unfold F_moves_back
  refine Runs.eq <| rFn R2_ A2_ <| rSeq <| rAsg <| rLst <| rL rfl <| kLst zN rfl <| kAsg (gV rfl s2_) <| rSeq <| rL h1 <| rRet <| rUn <| rL rfl <| kUn rfl rfl <| kRet tV <| ?_
  rw [er]; rfl
theorem sw_inner (hN : ∀ x ∈ NN, ∀ p ∈ s x, p.2 ∈ NN) (few : NN.length ≤ 100000) (B : Bfs s NN r W i par) {a : α} (ha : W[i]? = some a) {s0 s1 s2 s5 s7 s8 : SV} :
    ∃ W' par' c7 c8, loopS (fgTup 2 (fgCons (fgName 7) (fgCons (fgName 8) fgNil))) lb1_shortest_way ((s a).map (edgeP E)) [s0, s1, s2, .ow (.map (dictP E W (parP E par))), .ow (.lst (W.map E.nd)), s5, .fz (E.nd a), s7, s8] =
      some (.nx [s0, s1, s2, .ow (.map (dictP E W' (parP E par'))), .ow (.lst (W'.map E.nd)), s5, .fz (E.nd a), c7, c8]) ∧ Bfs s NN r W' i par' ∧ W'[i]? = some a ∧ (∀ p ∈ s a, p.2 ∈ W') ∧ ∃ X, W' = W ++ X := by
  obtain ⟨e', h1, W', par', c7, c8, rfl, B', ha', hp', hX⟩ := loop_told (fg := fgTup 2 (fgCons (fgName 7) (fgCons (fgName 8) fgNil))) (fb := lb1_shortest_way) (edgeP E) (xs := s a)
    (fun k e => ∃ (W' : List α) (par' : α → Option (α × Move)) (c7 c8 : SV), e = [s0, s1, s2, .ow (.map (dictP E W' (parP E par'))), .ow (.lst (W'.map E.nd)), s5, .fz (E.nd a), c7, c8] ∧ Bfs s NN r W' i par' ∧ W'[i]? = some a ∧ (∀ p ∈ (s a).take k, p.2 ∈ W') ∧ ∃ X, W' = W ++ X)
    (e0 := [s0, s1, s2, .ow (.map (dictP E W (parP E par))), .ow (.lst (W.map E.nd)), s5, .fz (E.nd a), s7, s8]) ⟨W, par, s7, s8, rfl, B, ha, by simp, [], by simp⟩ (by
    rintro k ⟨m, b⟩ e hk ⟨W', par', c7, c8, rfl, B', ha', hp', X, hX⟩
    have hin := in_dict (E := E) (N := W') (f := parP E par') b
    have mb : (m, b) ∈ s a := List.mem_of_getElem? hk
    have aW : a ∈ W' := List.mem_of_getElem? ha'
    have bN : b ∈ NN := hN a (B'.inN a aW) _ mb
    have tk : (s a).take (k + 1) = (s a).take k ++ [(m, b)] := by rw [List.take_add_one, hk] <;> rfl
    have hlen : W'.length ≤ NN.length := B'.nd.length_le_of_subset B'.inN
    have kb := E.hk b
    unfold lb1_shortest_way edgeP
    by_cases hb : b ∈ W'
    · rw [decide_eq_true hb] at hin
      refine rBd (gT rfl rfl (gC (gV rfl s7_) (gC (gV rfl s8_) gN))) <| rIf <| rTest <| rOp <| rL rfl <| kOp1 <| rL rfl <| kOp2 rfl rfl (ninI hin) <| kTest rfl <| kIfF rfl <| rL rfl <| ?_
      refine ⟨W', par', _, _, rfl, B', ha', ?_, X, hX⟩
      intro p hp
      rw [tk] at hp
      rcases List.mem_append.mp hp with z | z
      · exact hp' p z
      · rw [List.mem_singleton.mp z]; exact hb
    · rw [decide_eq_false hb] at hin
      have lt : (dictP E W' (parP E par')).length < 1000000 := by rw [dict_len]; omega
      have put := par_put (E := E) (par := par') (a := a) (m := m) hb
      have hnew : pInB (E.nd b) (.map (dictP E W' (parP E par'))) = some false := hin
      (refine rBd (gT rfl rfl (gC (gV rfl s7_) (gC (gV rfl s8_) gN))) <| rIf <| rTest <| rOp <| rL rfl <| kOp1 <| rL rfl <| kOp2 rfl rfl (ninI hnew) <| kTest rfl <| kIfT rfl <| rSeq <| rAsg <| rTup <| rCons <| rL rfl <| kCons1 <| rCons <| rL rfl <| kCons1 <| rL rfl <| kCons2 <| kCons2 <| kTup (z_ yV (z_ yV zN)) rfl <| rSetM yV rfl <| rL rfl <| kSetM yV kb rfl (by with_reducible assumption) s3_ <| rDrop <| rMut rfl <| rCons <| rL rfl <| ?_; refine kCons1 <| rL rfl <| kCons2 <| kMut (z_ yV zN) rfl (appI (szLt (by (try simp only [List.length_map, List.length_append, List.length_cons, List.length_nil, List.length_range]); omega))) s4_ <| kDrop <| ?_)
      refine ⟨W' ++ [b], upF par' b (some (a, m)), _, _, by rw [← put, List.map_append]; rfl, B'.push aW mb hb bN, ?_, ?_, X ++ [b], by rw [hX, List.append_assoc]⟩
      · rw [List.getElem?_append_left (List.getElem?_eq_some_iff.mp ha').1]; exact ha'
      · intro p hp
        rw [tk] at hp
        rcases List.mem_append.mp hp with z | z
        · exact List.mem_append_left _ (hp' p z)
        · rw [List.mem_singleton.mp z]; simp)
  rw [List.take_length] at hp'
  exact ⟨W', par', c7, c8, h1, B', ha', hp', hX⟩
theorem sw_eq {r g : α} {G : List α} {fg : α → PV} (hN : ∀ x ∈ NN, ∀ p ∈ s x, p.2 ∈ NN) (few : NN.length ≤ 100000) (hr : r ∈ NN) (hg : g ∈ G) (hrg : Rch (nx s) r g) :
    ∃ ms g', F_shortest_way [.fz (.map (graphP E NN s)), .fz (E.nd r), .fz (.map (dictP E G fg))] = some ([.no, .no, .no], .ok (.fz (.tup [.lst (ms.map moveP), E.nd g']))) ∧ g' ∈ G ∧ Way s r ms g' ∧ ms.length + 1 ≤ NN.length := by
  obtain ⟨e', h1, W, par, i, a, c6, c7, c8, rfl, B, ha, haG⟩ := while_ind (ft := wc1_shortest_way) (fb := wb1_shortest_way)
    (fun e => ∃ (W : List α) (par : α → Option (α × Move)) (i : Nat) (c6 c7 c8 : SV), e = [.fz (.map (graphP E NN s)), .fz (E.nd r), .fz (.map (dictP E G fg)), .ow (.map (dictP E W (parP E par))), .ow (.lst (W.map E.nd)), .fz (.int (i : Nat)), c6, c7, c8] ∧ Bfs s NN r W i par ∧ ∀ (j : Nat) b, j < i → W[j]? = some b → b ∉ G)
    (fun e => NN.length + 1 - intAt 5 e)
    (fun e => ∃ (W : List α) (par : α → Option (α × Move)) (i : Nat) (a : α) (c6 c7 c8 : SV), e = [.fz (.map (graphP E NN s)), .fz (E.nd r), .fz (.map (dictP E G fg)), .ow (.map (dictP E W (parP E par))), .ow (.lst (W.map E.nd)), .fz (.int (i : Nat)), c6, c7, c8] ∧ Bfs s NN r W i par ∧ W[i]? = some a ∧ a ∈ G) (by
    rintro e ⟨W, par, i, c6, c7, c8, rfl, B, hno⟩
    obtain ⟨a, ha⟩ := B.there hrg fun j b hj hb z => hno j b hj hb (z ▸ hg)
    have h1 : atI (W.map E.nd) (i : Nat) = some (E.nd a) := at_map ha
    have hin := in_dict (E := E) (N := G) (f := fg) a
    have aN := B.inN a (List.mem_of_getElem? ha)
    have ka := E.hk a
    have il := (List.getElem?_eq_some_iff.mp ha).1
    have hlen : W.length ≤ NN.length := B.nd.length_le_of_subset B.inN
    by_cases haG : a ∈ G
    · right
      rw [decide_eq_true haG] at hin
      refine ⟨_, ?_, W, par, i, a, c6, c7, c8, rfl, B, ha, haG⟩
      unfold wc1_shortest_way
      refine Runs.eq <| rTest <| rOp <| rOp <| rL rfl <| kOp1 <| rL rfl <| kOp2 rfl rfl (ixL h1) <| kOp1 <| rL rfl <| kOp2 rfl rfl (ninI hin) <| kTest rfl <| ?_
      rfl
    · left
      rw [decide_eq_false haG] at hin
      have hl : pIx (.map (graphP E NN s)) (E.nd a) = some (.fz (.lst ((s a).map (edgeP E)))) := ix_dict aN
      obtain ⟨W', par', d7, d8, lp, B', ha', hp', X, hX⟩ := sw_inner (E := E) hN few B ha (s0 := .fz (.map (graphP E NN s))) (s1 := .fz (E.nd r)) (s2 := .fz (.map (dictP E G fg))) (s5 := .fz (.int ((i : Nat) + 1))) (s7 := c7) (s8 := c8)
      refine ⟨[.fz (.map (graphP E NN s)), .fz (E.nd r), .fz (.map (dictP E G fg)), .ow (.map (dictP E W (parP E par))), .ow (.lst (W.map E.nd)), .fz (.int (i : Nat)), c6, c7, c8], [.fz (.map (graphP E NN s)), .fz (E.nd r), .fz (.map (dictP E G fg)), .ow (.map (dictP E W' (parP E par'))), .ow (.lst (W'.map E.nd)), .fz (.int ((i + 1 : Nat) : Int)), .fz (E.nd a), d7, d8], ?_, .inl ?_, ⟨W', par', i + 1, _, _, _, rfl, B'.next ha' hp', ?_⟩, ?_⟩
      · unfold wc1_shortest_way
        refine Runs.eq <| rTest <| rOp <| rOp <| rL rfl <| kOp1 <| rL rfl <| kOp2 rfl rfl (ixL h1) <| kOp1 <| rL rfl <| kOp2 rfl rfl (ninI hin) <| kTest rfl <| ?_
        rfl
      · unfold wb1_shortest_way
        refine Runs.eq <| rSeq <| rAsg <| rOp <| rL rfl <| kOp1 <| rL rfl <| kOp2 rfl rfl (ixL h1) <| kAsg (gV rfl s6_) <| rSeq <| rAug rfl <| rL rfl <| kAug rfl rfl s5_ <| rFor <| riSeq <| rOp <| rL rfl <| kOp1 <| rL rfl <| kOp2 rfl rfl hl <| kiSeq yV rfl <| kFor <| rL lp <| ?_
        rfl
      · intro j b hj hb
        by_cases q : j = i
        · subst q
          rw [ha'] at hb; cases hb
          exact haG
        · refine hno j b (by omega) ?_
          rw [hX, List.getElem?_append_left (by omega)] at hb
          exact hb
      · show NN.length + 1 - ((i + 1 : Nat) : Int).toNat < NN.length + 1 - ((i : Nat) : Int).toNat
        omega)
    bigN [.fz (.map (graphP E NN s)), .fz (E.nd r), .fz (.map (dictP E G fg)), .ow (.map (dictP E [r] (parP E fun _ => none))), .ow (.lst ([r].map E.nd)), .fz (.int ((0 : Nat) : Int)), .no, .no, .no] (by rw [bigN_eq]; show NN.length + 1 - 0 < _; omega)
    ⟨[r], fun _ => none, 0, .no, .no, .no, rfl, Bfs.start hr rfl, fun j b hj => absurd hj (Nat.not_lt_zero _)⟩
  have aW : a ∈ W := List.mem_of_getElem? ha
  have hlen : W.length ≤ NN.length := B.nd.length_le_of_subset B.inN
  obtain ⟨ms, h2, h3, h4⟩ := back_eq (E := E) B (by omega) aW
  have h5 : atI (W.map E.nd) (i : Nat) = some (E.nd a) := at_map ha
  have il := idx_lt aW
  refine ⟨ms, a, ?_, haG, h3, by omega⟩
  have kr := E.hk r
  have d1 : [(E.nd r, PV.non)] = dictP E [r] (parP E fun _ => none) := by rw [dict_un]; rfl
  unfold F_shortest_way
  refine Runs.eq <| rFn R6_ A3_ <| rSeq <| rAsg <| rDisp1 <| rL rfl <| kDisp1 <| rL rfl <| kDisp2 (z_ yV (z_ yV zN)) kr <| kAsg (gV rfl s3_) <| rSeq <| rAsg <| rLst <| rCons <| rL rfl <| kCons1 <| rL rfl <| kCons2 <| kLst (z_ yV zN) rfl <| kAsg (gV rfl s4_) <| rSeq <| rAsg <| rL rfl <| kAsg (gV rfl s5_) <| rSeq <| ?_
  rw [d1]
  (refine rL h1 <| rRet <| rTup <| rCons <| rCall <| rCons <| rL rfl <| kCons1 <| rCons <| rOp <| rL rfl <| kOp1 <| rL rfl <| kOp2 rfl rfl (ixL h5) <| kCons1 <| rL rfl <| kCons2 <| kCons2 <| kCall (p_ (yBM rfl s3_) (p_ yV pN)) h2 (bA rfl) <| kCons1 <| rCons <| rOp <| rL rfl <| kOp1 <| rL rfl <| kOp2 rfl rfl (ixL h5) <| kCons1 <| rL rfl <| kCons2 <| kCons2 <| ?_; refine kTup (z_ yO (z_ yV zN)) rfl <| kRet tV <| ?_)
  rfl
end
end Sd.Pu
namespace Sd.Pu
open PySem PySem.Spec PyProof.Rows L2 Sd.Gr
end Sd.Pu
namespace Sd.Pu
open PySem PySem.Spec PyProof.Rows L2 Sd.Gr
end Sd.Pu
namespace Sd.Pu
open PySem PySem.Spec PyProof.Rows L2 Sd.Gr
section
variable {β : Type}
theorem nks_map {v : β → PV} {k : β → NestedKey} (hv : ∀ b, nkOf (v b) = some (k b)) : ∀ ys : List β, nkOf.nksOf (ys.map v) = some (ys.map k)
  | [] => by rw [List.map_nil, nkOf.nksOf]; rfl
  | y :: ys => by rw [List.map_cons, nkOf.nksOf, hv, Option.bind_some, nks_map hv ys]; rfl
theorem depth_map {k : β → NestedKey} (hd : ∀ b, (k b).depth = 0) : ∀ ys : List β, NestedKey.depthAll (ys.map k) = 0
  | [] => by rw [List.map_nil, NestedKey.depthAll]
  | y :: ys => by rw [List.map_cons, NestedKey.depthAll, hd, depth_map hd ys]; rfl
theorem map_inj' {k : β → NestedKey} (inj : ∀ a b, k a = k b → a = b) : ∀ xs ys : List β, xs.map k = ys.map k → xs = ys
  | [], [], _ => rfl
  | [], _ :: _, h => by simp at h
  | _ :: _, [], h => by simp at h
  | x :: xs, y :: ys, h => by
    simp at h
    rw [inj _ _ h.1, map_inj' inj xs ys (by simpa using h.2)]
theorem nk_tup {v : β → PV} {k : β → NestedKey} (hv : ∀ b, nkOf (v b) = some (k b)) (ys : List β) : nkOf (.tup (ys.map v)) = some (.tup (ys.map k)) := by
  rw [nkOf, nks_map hv]; rfl
theorem dp_tup {k : β → NestedKey} (hd : ∀ b, (k b).depth = 0) (ys : List β) : (NestedKey.tup (ys.map k)).depth = 1 := by
  rw [NestedKey.depth, depth_map hd]
end
theorem keyP_of {xs : List PV} {k : NestedKey} (h : nkOf (.tup xs) = some k) (d : k.depth ≤ 8) : keyP (.tup xs) = some k := by
  unfold keyP
  dsimp only
  rw [h]
  exact Option.filter_eq_some_iff.mpr ⟨rfl, decide_eq_true d⟩
def kInt (i : Int) : NestedKey := .num i
def kBl (b : Bool) : NestedKey := .num (if b = true then 1 else 0)
def kStr (z : Str) : NestedKey := .text z
theorem nk_int (i : Int) : nkOf (.int i) = some (kInt i) := by rw [nkOf]; rfl
theorem nk_bl (b : Bool) : nkOf (.bl b) = some (kBl b) := by rw [nkOf]; rfl
theorem nk_str (z : Str) : nkOf (.str z) = some (kStr z) := by rw [nkOf]; rfl
theorem d_int (i : Int) : (kInt i).depth = 0 := by unfold kInt; rw [NestedKey.depth]
theorem d_bl (b : Bool) : (kBl b).depth = 0 := by unfold kBl; rw [NestedKey.depth]
theorem d_str (z : Str) : (kStr z).depth = 0 := by unfold kStr; rw [NestedKey.depth]
theorem i_int (a b : Int) (h : kInt a = kInt b) : a = b := by unfold kInt at h; injection h
theorem i_bl (a b : Bool) (h : kBl a = kBl b) : a = b := by
  unfold kBl at h
  cases a <;> cases b <;> simp at h <;> rfl
theorem i_str (a b : Str) (h : kStr a = kStr b) : a = b := by unfold kStr at h; injection h
/-- standings -/
def SE : Enc (List Int) where
  nd := standP
  ky := fun st => .tup (st.map kInt)
  hk := fun st => keyP_of (nk_tup nk_int st) (by rw [dp_tup d_int]; omega)
  inj := fun a b h => by injection h with h; exact map_inj' i_int a b h
theorem d_pair {β : Type} {k : β → NestedKey} (hd : ∀ b, (k b).depth = 0) (st : List Int) (ys : List β) : (NestedKey.tup [.tup (st.map kInt), .tup (ys.map k)]).depth ≤ 8 := by
  rw [NestedKey.depth, NestedKey.depthAll, NestedKey.depthAll, NestedKey.depthAll, dp_tup d_int, dp_tup hd]; omega
theorem nk_pair {β : Type} {v : β → PV} {k : β → NestedKey} (hv : ∀ b, nkOf (v b) = some (k b)) (st : List Int) (ys : List β) : nkOf (.tup [standP st, .tup (ys.map v)]) = some (.tup [.tup (st.map kInt), .tup (ys.map k)]) := by
  have h1 : nkOf (standP st) = some (.tup (st.map kInt)) := nk_tup nk_int st
  rw [nkOf, nkOf.nksOf, nkOf.nksOf, nkOf.nksOf, h1, nk_tup hv]; rfl
def pairE {β : Type} (v : β → PV) (k : β → NestedKey) (hv : ∀ b, nkOf (v b) = some (k b)) (hd : ∀ b, (k b).depth = 0) (inj : ∀ a b, k a = k b → a = b) : Enc (List Int × List β) where
  nd := fun p => .tup [standP p.1, .tup (p.2.map v)]
  ky := fun p => .tup [.tup (p.1.map kInt), .tup (p.2.map k)]
  hk := fun p => keyP_of (nk_pair hv p.1 p.2) (d_pair hd p.1 p.2)
  inj := fun a b h => by
    injection h with h
    simp at h
    obtain ⟨h1, h2⟩ := h
    exact Prod.ext (map_inj' i_int _ _ (by simpa using h1)) (map_inj' inj _ _ (by simpa using h2))
/-- marked standings -/
def ME : Enc (List Int × List Bool) := pairE PV.bl kBl nk_bl d_bl i_bl
/-- standings with the words done -/
def PE : Enc (List Int × List Str) := pairE PV.str kStr nk_str d_str i_str
/-- nodes that begin with a standing -/
structure EncS (α : Type) extends Enc α where
  st : α → List Int
  y : α → PV
  hs : ∀ a, nd a = .tup [standP (st a), y a]
section
variable {α : Type} [DecidableEq α] {E : Enc α} {s : α → List (Move × α)} {NN p : List α}
/-- the moves that stay in a part -/
def stay (s : α → List (Move × α)) (p : List α) (a : α) : List (Move × α) := (s a).filter fun e => decide (e.2 ∈ p)
end
end Sd.Pu
namespace Sd.Pu
open PySem PySem.Spec PyProof.Rows L2 Sd.Gr
structure Gk (rs : List Rw) (c1 c2 : List (PV × PV)) : Prop where
  w : ∃ N : List (List Int), N.Nodup ∧ (∀ p ∈ N, StandI rs p) ∧ c1 = dictP SE N fun p => .lst ((movesOf rs p).map (wayP rs p))
  a : ∃ N : List (List Int), N.Nodup ∧ (∀ p ∈ N, StandI rs p) ∧ c2 = dictP SE N fun p => .lst (intsP (ableOf rs p))
theorem Gk.nil (rs : List Rw) : Gk rs [] [] := ⟨⟨[], by simp, by simp, by rw [dict_nil]⟩, ⟨[], by simp, by simp, by rw [dict_nil]⟩⟩
/-- what is asked of a system -/
structure Sm (rs : List Rw) : Prop where
  sm : SmallR rs
  ct : cartN rs ≤ 100000
  mv : ∀ p, (movesOf rs p).length ≤ 800
section
variable {α : Type} [DecidableEq α] {E : EncS α} {s : α → List (Move × α)} {P : List α} {rs : List Rw} {ds : List Int}
/-- a hand that is able everywhere in a part and never moves in it -/
def idleB (rs : List Rw) (st : α → List Int) (s : α → List (Move × α)) (P : List α) (h : Int) : Bool := (P.all fun a => decide (h ∈ ableOf rs (st a))) && !(P.any fun a => (s a).any fun e => takesH e.1 h.toNat)
def idleOf (rs : List Rw) (ds : List Int) (st : α → List Int) (s : α → List (Move × α)) (P : List α) : Option Int := ds.find? (idleB rs st s P)
end
end Sd.Pu
namespace Sd.Pu
open PySem PySem.Spec PyProof.Rows L2 Sd.Gr
section
variable {α : Type} [DecidableEq α] {E : EncS α} {s : α → List (Move × α)} {P : List α} {rs : List Rw} {ds ks : List Int}
/-- what a fair round does for a hand: it takes it along, or comes by a node at which it is not able -/
def Served (rs : List Rw) (st : α → List Int) (s : α → List (Move × α)) (r : α) (ms : List Move) (a : α) (h : Int) : Prop := (∃ m ∈ ms, takesH m h.toNat = true) ∨ ∃ m1 m2 b, ms = m1 ++ m2 ∧ Way s r m1 b ∧ Way s b m2 a ∧ h ∉ ableOf rs (st b)
end
end Sd.Pu
namespace Sd.Pu
open PySem PySem.Spec PyProof.Rows L2 Sd.Gr
end Sd.Pu
namespace Sd.Pu
open PySem PySem.Spec PyProof.Rows L2
end Sd.Pu
namespace Sd.Pu
open PySem PySem.Spec PyProof.Rows L2
end Sd.Pu
namespace Sd
open PySem PySem.Spec PyProof.Rows L2
section
variable {g : Ga} {W : WX} {M : List Nat}
theorem SR.back {H : Hp} {σ σ' : L2.St} {e : Ev} {L : List En} {i : Nat} {a : Addr} {xs : List PV} (ho : σ[i]? = some (some (.ref a))) (mi : i ∈ M) (f : Fx M σ σ') (hl : σ'.length = e.length) (S : SR g H ((some (.ref a), .ow (.lst xs)) :: (zp σ' e ++ L))) : SR g H (zp σ' (e.set i (.ow (.lst xs))) ++ L) := by
  have h1 : σ'[i]? = some (some (.ref a)) := (f.2 i mi).trans ho
  have il : i < e.length := by rw [← hl]; exact (List.getElem?_eq_some_iff.mp h1).1
  have S3 := SR.store (i := i) hl il S
  rw [set_same h1] at S3
  exact S3
end
end Sd
namespace Sd.Pu
open PySem PySem.Spec PyProof.Rows L2
end Sd.Pu
namespace Sd.Pu
open PySem PySem.Spec PyProof.Rows L2
end Sd.Pu
namespace Sd
open PySem PySem.Spec PyProof.Rows L2
end Sd
namespace Sd
open PySem PySem.Spec PyProof.Rows L2
end Sd
namespace Sd.Pu
open PySem PySem.Spec PyProof.Rows L2
end Sd.Pu
namespace Sd
open PySem PySem.Spec PyProof.Rows L2
end Sd
namespace Sd
open PySem PySem.Spec PyProof.Rows L2
end Sd
namespace Sd.Pu
open PySem PySem.Spec PyProof.Rows L2
end Sd.Pu
namespace Sd
open PySem PySem.Spec PyProof.Rows L2
end Sd
namespace Sd
open PySem PySem.Spec PyProof.Rows L2
end Sd
namespace Sd
open PySem PySem.Spec PyProof.Rows L2
end Sd
namespace Sd.Pu
open PySem PySem.Spec PyProof.Rows L2
end Sd.Pu
namespace Sd.Pu
open PySem PySem.Spec PyProof.Rows L2
end Sd.Pu
namespace Sd
open PySem PySem.Spec PyProof.Rows L2
end Sd
namespace Sd.Pu
open PySem PySem.Spec PyProof.Rows L2
end Sd.Pu
namespace Sd
open PySem PySem.Spec PyProof.Rows L2
end Sd
namespace Sd.Pu
open PySem PySem.Spec PyProof.Rows L2
end Sd.Pu
namespace Sd.Pu
open PySem PySem.Spec PyProof.Rows L2
end Sd.Pu
namespace Sd.Pu
open PySem PySem.Spec PyProof.Rows L2
end Sd.Pu
namespace Sd
open PySem PySem.Spec PySem.W PyProof.Rows L2
end Sd
namespace Sd.Pu
open PySem PySem.Spec PyProof.Rows L2
noncomputable def lb1_Deeds_within : FS := (fIf (fTest (fOp pNotIn (fVar 3) (fVar 2))) (fRet (fC (.bl false))) fNext)
def t_Deeds_within (g : Ga) (E : XK) : TS := (tSeq (tAsg (tCall (PSp g 1 F_words_of_row) [] E (tCons (tVar 1) tNil)) (gName 2)) (tSeq (tFor (iSeq2 g.K g.w (tFld g.K (tVar 0) "kept")) (gName 3) (tIfS (tTest (tOp (rNotInX g.K g.w) (tVar 3) (tVar 2))) (tRet (tC (.bl false))) tNext)) (tRet (tC (.bl true)))))
noncomputable def f_Deeds_within : FS := (fSeq (fAsg (fCall F_words_of_row [false] [] (fCons (fVar 1) fNil)) (fgName 2)) (fSeq (fFor (fiSeq (fUn (pFld "kept") (fVar 0))) (fgName 3) lb1_Deeds_within) (fRet (fC (.bl true)))))
@[irreducible] noncomputable def F_Deeds_within : PF := fnOf [] 4 2 f_Deeds_within
theorem un_Deeds_within : F_Deeds_within = fnOf [] 4 2 f_Deeds_within := by rw [F_Deeds_within]
theorem fl_Deeds_within : ∀ as w, as.length = 2 → F_Deeds_within as = some w → w.1.length = 2 := by rw [un_Deeds_within]; exact fnOf_len
theorem sim_Deeds_within {g : Ga} {E : XK}  : SimS g (wOf E) [] (t_Deeds_within g E) f_Deeds_within := (simS_seq (simS_asg (simE_call (fun _ _ _ _ h => h) fl_words_of_row RpL.none (by rfl) (simA_cons (simE_var 1) simA_nil)) simG_name) (simS_seq (simS_for (simI_seq (simE_fld (simE_var 0))) simG_name (simS_if (simT_test (simE_op op_notInX (simE_var 3) (simE_var 2))) (simS_ret (simE_c fun G => .bl _)) simS_next)) (simS_ret (simE_c fun G => .bl _))))
end Sd.Pu
namespace Sd
open PySem PySem.Spec PyProof.Rows
open L2
theorem RpL.at_ {g : Ga} {H : Hp} : ∀ {vs : List V} {xs : List PV} {i : Nat} {v : V}, RpL g H vs xs → vs[i]? = some v → ∃ x, xs[i]? = some x ∧ Rp g H v x
  | _, _, _, _, .nil, h => by simp at h
  | _, _, 0, _, .cons a b, h => by simp at h; subst h; exact ⟨_, rfl, a⟩
  | _, _, i + 1, _, .cons a b, h => by
    obtain ⟨x, h1, h2⟩ := RpL.at_ (i := i) b (by simpa using h)
    exact ⟨x, by simpa using h1, h2⟩
end Sd
namespace Sd
open PySem PySem.Spec PyProof.Rows L2
end Sd
namespace Sd.Pu
open PySem PySem.Spec PyProof.Rows L2
end Sd.Pu
namespace Sd.Pu
open PySem PySem.Spec PyProof.Rows L2
end Sd.Pu
namespace Sd.Pu
open PySem PySem.Spec PyProof.Rows L2
end Sd.Pu
namespace Sd.Pu
open PySem PySem.Spec PyProof.Rows L2
end Sd.Pu
namespace Sd.Pu
open PySem PySem.Spec PyProof.Rows L2
end Sd.Pu
namespace Sd.Pu
open PySem PySem.Spec PyProof.Rows L2
def t_Deeds_eq (g : Ga) (E : XK) : TS := (tRet (tAndV (tCB (rIsi g.K) (tCons (tVar 1) (tCons (tC (.ref (g.c "Deeds"))) tNil))) (tOp (rEqX g.K) (tFld g.K (tVar 0) "kept") (tFld g.K (tVar 1) "kept"))))
noncomputable def f_Deeds_eq : FS := (fRet (fAndV (fCB pIsi (fCons (fVar 1) (fCons (fC (.cl "Deeds")) fNil))) (fOp pEq (fUn (pFld "kept") (fVar 0)) (fUn (pFld "kept") (fVar 1)))))
@[irreducible] noncomputable def F_Deeds_eq : PF := fnOf [] 2 2 f_Deeds_eq
theorem un_Deeds_eq : F_Deeds_eq = fnOf [] 2 2 f_Deeds_eq := by rw [F_Deeds_eq]
theorem fl_Deeds_eq : ∀ as w, as.length = 2 → F_Deeds_eq as = some w → w.1.length = 2 := by rw [un_Deeds_eq]; exact fnOf_len
theorem sim_Deeds_eq {g : Ga} {E : XK} (K : KitC g) (pr_Deeds : present g.K "Deeds" = true) : SimS g (wOf E) [] (t_Deeds_eq g E) f_Deeds_eq := (simS_ret (simE_and (simE_cb (op_isi K) (simA_cons (simE_var 1) (simA_cons (simE_c fun G => .cl pr_Deeds) simA_nil))) (simE_op op_eqX (simE_fld (simE_var 0)) (simE_fld (simE_var 1)))))
end Sd.Pu
namespace Sd
open PySem PySem.Spec PySem.W PyProof.Rows L2
section
variable {M : Model} {A : Around} {E : Value → Shared → Prop} {s : Shared} {K : Frag} {x C f : Addr} {ox : Obj} {od : Option Obj}
theorem special_look {name : Str} {Q : Option Value → Shared → Prop} (X : K.In s.heap) (I : InstAt s.heap x ox C od) (hs : findIn K (.ref C) name = some (some (.ref f))) (q : Q (some (.ref f)) s) : wpAny M A (specialOf (.ref x) name) Q E s :=
  wpAny_bind (I.type.here ((looks_findIn X hs).here q))
theorem contains_own {y : Value} {Q : Bool → Shared → Prop} (X : K.In s.heap) (I : InstAt s.heap x ox C od) (hs : findIn K (.ref C) "__contains__" = some (some (.ref f))) (hf : isFn K (.ref f) = true)
    (h : wpAny M A (call (.ref f) [.ref x, y]) (fun r s' => ∃ b, r = .bool b ∧ Q b s') E s) : wpAny M A (contains (.ref x) y) Q E s := by
  unfold contains
  refine wpAny_holding ?_
  show wpAny M A (specialOf (.ref x) "__contains__" >>= _) Q E s
  refine wpAny_bind (special_look X I hs ?_)
  show wpAny M A (callSpecialUnlessNone? (.ref x) "__contains__" [y] _ >>= _) Q E s
  refine wpAny_bind ?_
  unfold callSpecialUnlessNone?
  refine wpAny_bind (special_look X I hs ?_)
  dsimp only
  refine wpAny_holding ?_
  refine wpAny_bind ((bind_fn X _ (beq_iff_eq.mp hf)).here ?_)
  show wpAny M A (call (.ref f) [.ref x, y] >>= _) _ E s
  refine wpAny_bind (wpAny_mono h (fun r s' hr => ?_) fun _ _ z => z)
  obtain ⟨b, rfl, q⟩ := hr
  exact wpAny_pure (wpAny_pure q)
theorem truthy_own {Q : Bool → Shared → Prop} (X : K.In s.heap) (I : InstAt s.heap x ox C od) (hs : findIn K (.ref C) "__bool__" = some (some (.ref f))) (hf : isFn K (.ref f) = true)
    (h : wpAny M A (call (.ref f) [.ref x]) (fun r s' => ∃ b, r = .bool b ∧ Q b s') E s) : wpAny M A (truthy (.ref x)) Q E s := by
  unfold truthy
  show wpAny M A (callSpecial? (.ref x) "__bool__" >>= _) Q E s
  refine wpAny_bind (special_fn X I hs (beq_iff_eq.mp hf) (wpAny_mono h (fun r s' hr => ?_) fun _ _ z => z))
  obtain ⟨b, rfl, q⟩ := hr
  exact wpAny_pure q
end
section
variable {prog : Program} {w : World} {A : Around} {E : Value → Shared → Prop} {s : Shared} {K : Frag} {x C f : Addr} {ox : Obj} {od : Option Obj}
theorem len_own {Q : Value → Shared → Prop} (X : K.In s.heap) (I : InstAt s.heap x ox C od) (hs : findIn K (.ref C) "__len__" = some (some (.ref f))) (hf : isFn K (.ref f) = true)
    (h : wpAny (model prog w) A.in1 (call (.ref f) [.ref x]) (fun r s' => ∃ (n : Nat) (t : Nat), r = .int n t ∧ (n : Int) < 2 ^ 63 ∧ Q (.int n s'.toks) { s' with toks := s'.toks + 1 }) E s) : wpAny (model prog w) A (call (.builtin "len") [.ref x]) Q E s := by
  refine Calls.call_function_entry kind_len plain_len entry_len (args_len1 _) ?_
  unfold Builtin.«len»
  refine wpAny_bind (m := oneArg "len" _) (wpAny_pure ?_)
  refine wpAny_bind (m := callSpecial? (.ref x) (Str.ofString "__len__")) (special_fn X I hs (beq_iff_eq.mp hf) (wpAny_mono h (fun r s' hr => ?_) fun _ _ z => z))
  obtain ⟨n, t, rfl, hn, q⟩ := hr
  refine wpAny_bind (wpAny_holding (wpAny_pure ?_))
  refine wpAny_bind (wpAny_letGo ?_)
  show wpAny _ _ (if ((n : Nat) : Int) < 0 then _ else _) _ _ _
  rw [if_neg (by omega)]
  show wpAny _ _ (if ((n : Nat) : Int) ≥ 2 ^ 63 then _ else _) _ _ _
  rw [if_neg (by omega)]
  exact wpAny_bind (wpAny_mkInt (wpAny_pure ⟨_, rfl, q⟩))
theorem bool_own {Q : Value → Shared → Prop} (X : K.In s.heap) (I : InstAt s.heap x ox C od) (hs : findIn K (.ref C) "__bool__" = some (some (.ref f))) (hf : isFn K (.ref f) = true)
    (h : wpAny (model prog w) A.in1.in1 (call (.ref f) [.ref x]) (fun r s' => ∃ b, r = .bool b ∧ Q (.bool b) s') E s) : wpAny (model prog w) A (call (.type "bool") [.ref x]) Q E s := by
  refine callType_codes (T := "bool") (Bi := Builtin.«object.__init__») (Q₁ := fun r s₁ => ∃ b, r = Value.bool b ∧ Q r s₁) PySem.F.called_bool (PySem.F.typeCall_bool_1 _) PySem.F.entry_object_init ?_ ?_
  · refine codeAny_of_tree ?_
    show wpAny _ A.in1.in1 (do checkBuiltinCall "bool.__new__" ⟨[.type "bool", .ref x], []⟩; again (.builtin "bool.__new__" ⟨[.type "bool", .ref x], []⟩)) _ _ s
    refine wpAny_bind (wpAny_of_eq (PySem.F.newCall_bool_1 _) (wpAny_pure ⟨plainId_quiet (by decide +kernel) _, codeAny_builtin PySem.F.entry_bool_new ?_⟩))
    rw [Around.under_plainId (by decide +kernel) _]
    unfold Builtin.«bool.__new__»
    have f1 := PySem.F.conv_sub_bool
    refine wpAny_bind (wpAny_of_eq (a := true) (by rfl) ?_)
    refine PySem.W.KFB.if_not rfl ?_
    refine wpAny_bind (wpAny_of_eq (a := true) f1 ?_)
    refine PySem.W.KFB.if_not rfl ?_
    refine wpAny_bind (wpAny_pure ?_)
    dsimp only
    refine wpAny_bind (truthy_own X I hs hf (wpAny_mono h (fun r s₁ hr => ?_) fun _ _ y => y))
    obtain ⟨b, rfl, hq⟩ := hr
    exact ⟨b, rfl, wpAny_pure ⟨b, rfl, hq⟩⟩
  · rintro obj s₁ ⟨b, rfl, hq⟩
    exact ⟨PySem.typeIs_bool _ _, PySem.F.args_object_init_2 _ _, object_init_meets PySem.F.called_bool.init.lookup PySem.F.called_bool.made (by decide) prog w A.in1 _ s₁ ⟨PySem.typeIs_bool _ _, rfl, hq⟩⟩
end
def rInO (C : Addr) (sp : Sp) : R2 := fun x y H Q => ∃ (a dx : Addr) (fs : List (Str × V)), y = .ref a ∧ H a = some (.ins C dx fs) ∧ sp [.ref a, x] H (fun v H1 => ∃ b, v = .bl b ∧ Q (.bl b) H1) E0
def rNotInO (C : Addr) (sp : Sp) : R2 := fun x y H Q => ∃ (a dx : Addr) (fs : List (Str × V)), y = .ref a ∧ H a = some (.ins C dx fs) ∧ sp [.ref a, x] H (fun v H1 => ∃ b, v = .bl b ∧ Q (.bl (!b)) H1) E0
def rLenO (C : Addr) (sp : Sp) : List V → Hp → VK → Prop := fun xs H Q => ∃ (a dx : Addr) (fs : List (Str × V)), xs = [.ref a] ∧ H a = some (.ins C dx fs) ∧ sp [.ref a] H (fun v H1 => ∃ n : Nat, v = .int n ∧ (n : Int) < 2 ^ 63 ∧ Q (.int n) H1) E0
def rBoolO (C : Addr) (sp : Sp) : List V → Hp → VK → Prop := fun xs H Q => ∃ (a dx : Addr) (fs : List (Str × V)), xs = [.ref a] ∧ H a = some (.ins C dx fs) ∧ sp [.ref a] H (fun v H1 => ∃ b, v = .bl b ∧ Q (.bl b) H1) E0
section
variable {X : Cx} {lv : Nat} {C : Str} {ps : List Str} {sp : Sp}
theorem o_inO (c : CalN (gX X) X.mg X.base lv C "__contains__" ps [] sp) (hr : Room lv X.A) : OpR X (compareOp .In) (rInO ((gX X).c C) sp) := by
  obtain ⟨f, fd, ds, cl, M, F, hb, hv⟩ := c.ex
  cases hv
  intro pins s σ H x y v u Q I rx ry h
  obtain ⟨a, dx, fs, rfl, ha, hsp⟩ := h
  cases ry
  obtain ⟨mA, J, _⟩ := ins_get I.hok ha
  obtain ⟨od, J, _⟩ := J.look
  show wpAny (model X.prog X.w) X.A (contains (.ref a) v >>= _) (EP X pins σ Q) X.xe s
  refine wpAny_bind (contains_own I.kIn J M.at_ M.fn ?_)
  have r2 : Vals [V.ref a, x] [Value.ref a, v] := .cons rfl (.cons rx .nil)
  refine wpAny_mono (run_fn (dvs := []) (ds := []) (E := E0) F hr hb .nil passL I r2 (by rw [List.append_nil]; exact hsp)) (fun w s' q => ?_) fun _ _ z => z
  obtain ⟨z, H1, I1, rz, b, rfl, q⟩ := q
  cases rz
  exact ⟨b, rfl, wpAny_pure ⟨.bl b, H1, I1, rfl, q⟩⟩
theorem o_notInO (c : CalN (gX X) X.mg X.base lv C "__contains__" ps [] sp) (hr : Room lv X.A) : OpR X (compareOp .NotIn) (rNotInO ((gX X).c C) sp) := by
  obtain ⟨f, fd, ds, cl, M, F, hb, hv⟩ := c.ex
  cases hv
  intro pins s σ H x y v u Q I rx ry h
  obtain ⟨a, dx, fs, rfl, ha, hsp⟩ := h
  cases ry
  obtain ⟨mA, J, _⟩ := ins_get I.hok ha
  obtain ⟨od, J, _⟩ := J.look
  show wpAny (model X.prog X.w) X.A (contains (.ref a) v >>= _) (EP X pins σ Q) X.xe s
  refine wpAny_bind (contains_own I.kIn J M.at_ M.fn ?_)
  have r2 : Vals [V.ref a, x] [Value.ref a, v] := .cons rfl (.cons rx .nil)
  refine wpAny_mono (run_fn (dvs := []) (ds := []) (E := E0) F hr hb .nil passL I r2 (by rw [List.append_nil]; exact hsp)) (fun w s' q => ?_) fun _ _ z => z
  obtain ⟨z, H1, I1, rz, b, rfl, q⟩ := q
  cases rz
  exact ⟨b, rfl, wpAny_pure ⟨.bl (!b), H1, I1, rfl, q⟩⟩
theorem call_lenO (c : CalN (gX X) X.mg X.base lv C "__len__" ps [] sp) (hr : Room (lv + 1) X.A) : CallR X (.builtin "len") (rLenO ((gX X).c C) sp) := by
  obtain ⟨f, fd, ds, cl, M, F, hb, hv⟩ := c.ex
  cases hv
  intro pins s σ H xs us Q I r h
  obtain ⟨a, dx, fs, rfl, ha, hsp⟩ := h
  obtain ⟨u, rfl, ru⟩ := vals1 r
  obtain rfl : u = Value.ref a := ru
  obtain ⟨mA, J, _⟩ := ins_get I.hok ha
  obtain ⟨od, J, _⟩ := J.look
  have sb : Sub X lv X.A.in1 := Sub.in1 ⟨hr, rfl⟩
  refine len_own I.kIn J M.at_ M.fn (wpAny_mono (run_sub F sb hb (E := E0) passL I (show Vals [V.ref a] [Value.ref a] from .cons rfl .nil) hsp) (fun w s' q => ?_) fun _ _ z => z)
  obtain ⟨z, H1, I1, rz, n, rfl, hn, q⟩ := q
  obtain ⟨t, rfl⟩ := rz
  exact ⟨n, t, rfl, hn, .int n, H1, I1.tok _, ⟨_, rfl⟩, q⟩
theorem call_boolO (c : CalN (gX X) X.mg X.base lv C "__bool__" ps [] sp) (hr : Room (lv + 2) X.A) : CallR X (.type "bool") (rBoolO ((gX X).c C) sp) := by
  obtain ⟨f, fd, ds, cl, M, F, hb, hv⟩ := c.ex
  cases hv
  intro pins s σ H xs us Q I r h
  obtain ⟨a, dx, fs, rfl, ha, hsp⟩ := h
  obtain ⟨u, rfl, ru⟩ := vals1 r
  obtain rfl : u = Value.ref a := ru
  obtain ⟨mA, J, _⟩ := ins_get I.hok ha
  obtain ⟨od, J, _⟩ := J.look
  have sb : Sub X lv X.A.in1.in1 := Sub.in1 (Sub.in1 ⟨hr, rfl⟩)
  refine bool_own I.kIn J M.at_ M.fn (wpAny_mono (run_sub F sb hb (E := E0) passL I (show Vals [V.ref a] [Value.ref a] from .cons rfl .nil) hsp) (fun w s' q => ?_) fun _ _ z => z)
  obtain ⟨z, H1, I1, rz, b, rfl, q⟩ := q
  cases rz
  exact ⟨b, rfl, .bl b, H1, I1, rfl, q⟩
end
end Sd
namespace Sd
open PySem PySem.Spec PySem.W PyProof.Rows L2
/-- x in y, y an instance of C -/
def inF (C : Str) (F : PF) : PF
  | [.fz x, .fz y] => if insB C y = true then (match F [.fz y, .fz x] with
    | some ([b, a], .ok (.fz (.bl r))) => some ([a, b], .ok (.fz (.bl r)))
    | _ => none) else none
  | _ => none
/-- x not in y -/
def notInF (C : Str) (F : PF) : PF
  | [.fz x, .fz y] => if insB C y = true then (match F [.fz y, .fz x] with
    | some ([b, a], .ok (.fz (.bl r))) => some ([a, b], .ok (.fz (.bl (!r))))
    | _ => none) else none
  | _ => none
def lenF (C : Str) (F : PF) : PF
  | [.fz x] => if insB C x = true then (match F [.fz x] with
    | some ([a], .ok (.fz (.int n))) => if 0 ≤ n ∧ n < 2 ^ 63 then some ([a], .ok (.fz (.int n))) else none
    | _ => none) else none
  | _ => none
def boolF (C : Str) (F : PF) : PF
  | [.fz x] => if insB C x = true then (match F [.fz x] with
    | some ([a], .ok (.fz (.bl r))) => some ([a], .ok (.fz (.bl r)))
    | _ => none) else none
  | _ => none
theorem inF_inv {C : Str} {F : PF} {as : List SV} {w : List SV × RS} (h : inF C F as = some w) : ∃ x y a b r, as = [.fz x, .fz y] ∧ insB C y = true ∧ F [.fz y, .fz x] = some ([b, a], .ok (.fz (.bl r))) ∧ w = ([a, b], .ok (.fz (.bl r))) := by
  unfold inF at h
  split at h
  · split at h
    · rename_i hc
      split at h
      · rename_i hF
        cases h
        exact ⟨_, _, _, _, _, rfl, hc, hF, rfl⟩
      · cases h
    · cases h
  · cases h
theorem notInF_inv {C : Str} {F : PF} {as : List SV} {w : List SV × RS} (h : notInF C F as = some w) : ∃ x y a b r, as = [.fz x, .fz y] ∧ insB C y = true ∧ F [.fz y, .fz x] = some ([b, a], .ok (.fz (.bl r))) ∧ w = ([a, b], .ok (.fz (.bl (!r)))) := by
  unfold notInF at h
  split at h
  · split at h
    · rename_i hc
      split at h
      · rename_i hF
        cases h
        exact ⟨_, _, _, _, _, rfl, hc, hF, rfl⟩
      · cases h
    · cases h
  · cases h
theorem lenF_inv {C : Str} {F : PF} {as : List SV} {w : List SV × RS} (h : lenF C F as = some w) : ∃ x a n, as = [.fz x] ∧ insB C x = true ∧ F [.fz x] = some ([a], .ok (.fz (.int n))) ∧ 0 ≤ n ∧ n < 2 ^ 63 ∧ w = ([a], .ok (.fz (.int n))) := by
  unfold lenF at h
  split at h
  · split at h
    · rename_i hc
      split at h
      · rename_i hF
        split at h
        · rename_i hn
          cases h
          exact ⟨_, _, _, rfl, hc, hF, hn.1, hn.2, rfl⟩
        · cases h
      · cases h
    · cases h
  · cases h
theorem boolF_inv {C : Str} {F : PF} {as : List SV} {w : List SV × RS} (h : boolF C F as = some w) : ∃ x a r, as = [.fz x] ∧ insB C x = true ∧ F [.fz x] = some ([a], .ok (.fz (.bl r))) ∧ w = ([a], .ok (.fz (.bl r))) := by
  unfold boolF at h
  split at h
  · split at h
    · rename_i hc
      split at h
      · rename_i hF
        cases h
        exact ⟨_, _, _, rfl, hc, hF, rfl⟩
      · cases h
    · cases h
  · cases h
theorem inF_len {C : Str} {F : PF} : ∀ as w, as.length = 2 → inF C F as = some w → w.1.length = 2 := fun as w _ h => by
  obtain ⟨_, _, _, _, _, _, _, _, rfl⟩ := inF_inv h; rfl
theorem notInF_len {C : Str} {F : PF} : ∀ as w, as.length = 2 → notInF C F as = some w → w.1.length = 2 := fun as w _ h => by
  obtain ⟨_, _, _, _, _, _, _, _, rfl⟩ := notInF_inv h; rfl
theorem lenF_len {C : Str} {F : PF} : ∀ as w, as.length = 1 → lenF C F as = some w → w.1.length = 1 := fun as w _ h => by
  obtain ⟨_, _, _, _, _, _, _, _, rfl⟩ := lenF_inv h; rfl
theorem boolF_len {C : Str} {F : PF} : ∀ as w, as.length = 1 → boolF C F as = some w → w.1.length = 1 := fun as w _ h => by
  obtain ⟨_, _, _, _, _, _, rfl⟩ := boolF_inv h; rfl
section
variable {g : Ga} {C : Str} {F : PF}
theorem ins_of {A : List Addr} {H : Hp} {v : V} {x : PV} (h : Rp g (mns H A) v x) (hc : insB C x = true) : ∃ a dx fs, v = .ref a ∧ H a = some (.ins (g.c C) dx fs) := by
  cases x with
  | ins D fs =>
    have hD : D = C := of_decide_eq_true hc
    subst hD
    cases h with
    | ins cp hx hfs => exact ⟨_, _, _, rfl, mns_le _ _ hx⟩
  | _ => cases hc
theorem inF_go {vs : List V} {H : Hp} {Q : VK} {E : XK} (h : PSp g 2 (inF C F) vs H Q E) : ∃ x y, vs = [x, y] ∧ rInO (g.c C) (PSp g 2 F) x y H Q := by
  obtain ⟨L, as, as', o, l1, l2, l3, S, hf, post⟩ := h
  obtain ⟨x, y, a, b, r, rfl, hc, hF, hw⟩ := inF_inv hf
  cases hw
  match vs, l1 with
  | [v, w], _ =>
    refine ⟨v, w, rfl, ?_⟩
    have S2 : SR g H ((some w, .fz y) :: (some v, .fz x) :: L) := S.perm (.swap _ _ _)
    obtain ⟨A, z⟩ := id S2
    obtain ⟨p, dx, fs, rfl, hp⟩ := ins_of (show Rp g (mns H A) w y from z.top) hc
    refine ⟨p, dx, fs, rfl, hp, L, [.fz y, .fz x], [b, a], _, rfl, rfl, rfl, S2, hF, fun u H' S' => ?_⟩
    have hu : u = .bl r := by
      obtain ⟨A', z'⟩ := id S'
      have := z'.top
      cases this
      rfl
    subst hu
    exact ⟨r, rfl, post _ H' (S'.perm (.cons _ (.swap _ _ _)))⟩
theorem notInF_go {vs : List V} {H : Hp} {Q : VK} {E : XK} (h : PSp g 2 (notInF C F) vs H Q E) : ∃ x y, vs = [x, y] ∧ rNotInO (g.c C) (PSp g 2 F) x y H Q := by
  obtain ⟨L, as, as', o, l1, l2, l3, S, hf, post⟩ := h
  obtain ⟨x, y, a, b, r, rfl, hc, hF, hw⟩ := notInF_inv hf
  cases hw
  match vs, l1 with
  | [v, w], _ =>
    refine ⟨v, w, rfl, ?_⟩
    have S2 : SR g H ((some w, .fz y) :: (some v, .fz x) :: L) := S.perm (.swap _ _ _)
    obtain ⟨A, z⟩ := id S2
    obtain ⟨p, dx, fs, rfl, hp⟩ := ins_of (show Rp g (mns H A) w y from z.top) hc
    refine ⟨p, dx, fs, rfl, hp, L, [.fz y, .fz x], [b, a], _, rfl, rfl, rfl, S2, hF, fun u H' S' => ?_⟩
    have hu : u = .bl r := by
      obtain ⟨A', z'⟩ := id S'
      have := z'.top
      cases this
      rfl
    subst hu
    exact ⟨r, rfl, post _ H' ((S'.perm (.cons _ (.swap _ _ _))).tail.scal fun G => .bl _)⟩
theorem lenF_go {vs : List V} {H : Hp} {Q : VK} {E : XK} (h : PSp g 1 (lenF C F) vs H Q E) : rLenO (g.c C) (PSp g 1 F) vs H Q := by
  obtain ⟨L, as, as', o, l1, l2, l3, S, hf, post⟩ := h
  obtain ⟨x, a, n, rfl, hc, hF, n0, n1, hw⟩ := lenF_inv hf
  cases hw
  obtain ⟨n, rfl⟩ := Int.eq_ofNat_of_zero_le n0
  match vs, l1 with
  | [v], _ =>
    obtain ⟨A, z⟩ := id S
    obtain ⟨p, dx, fs, rfl, hp⟩ := ins_of (show Rp g (mns H A) v x from z.top) hc
    refine ⟨p, dx, fs, rfl, hp, L, [.fz x], [a], _, rfl, rfl, rfl, S, hF, fun u H' S' => ?_⟩
    have hu : u = .int n := by
      obtain ⟨A', z'⟩ := id S'
      have := z'.top
      cases this
      rfl
    subst hu
    exact ⟨n, rfl, n1, post _ H' S'⟩
theorem boolF_go {vs : List V} {H : Hp} {Q : VK} {E : XK} (h : PSp g 1 (boolF C F) vs H Q E) : rBoolO (g.c C) (PSp g 1 F) vs H Q := by
  obtain ⟨L, as, as', o, l1, l2, l3, S, hf, post⟩ := h
  obtain ⟨x, a, r, rfl, hc, hF, hw⟩ := boolF_inv hf
  cases hw
  match vs, l1 with
  | [v], _ =>
    obtain ⟨A, z⟩ := id S
    obtain ⟨p, dx, fs, rfl, hp⟩ := ins_of (show Rp g (mns H A) v x from z.top) hc
    refine ⟨p, dx, fs, rfl, hp, L, [.fz x], [a], _, rfl, rfl, rfl, S, hF, fun u H' S' => ?_⟩
    have hu : u = .bl r := by
      obtain ⟨A', z'⟩ := id S'
      have := z'.top
      cases this
      rfl
    subst hu
    exact ⟨r, rfl, post _ H' S'⟩
variable {W : WX} {ta tb : TE} {fa fb : FE}
theorem simE_inO (ha : SimE g W ta fa) (hb : SimE g W tb fb) : SimE g W (tOp (rInO (g.c C) (PSp g 2 F)) ta tb) (fCall (inF C F) [false, false] [] (fCons fa (fCons fb fNil))) := by
  intro H σ e L Q o hl S hf post
  have h0 := simA_cons ha (simA_cons hb simA_nil)
  show tCons ta (tCons tb tNil) σ H (fun vs H2 => match vs with | [x, y] => rInO (g.c C) (PSp g 2 F) x y H2 Q | _ => False)
  rcases bnd_inv hf with ⟨e1, x, h1, rfl⟩ | ⟨e1, rs, h1, h2⟩
  · exact h0 H σ e L _ _ hl S h1 post
  · refine h0 H σ e L _ _ hl S h1 fun vs H1 hl1 bs S1 => ?_
    have hn : vs.length + ([] : List V).length = 2 := by
      obtain ⟨q, h3, _⟩ := Option.bind_eq_some_iff.mp h2
      have h4 := pass_len h3
      have h5 := bs.length
      have h6 : ([false, false] : List Bool).length = 2 := rfl
      have h7 : ([] : List V).length = 0 := rfl
      omega
    have h : PSp g 2 (inF C F) (vs ++ []) H1 Q (WE W σ) := call_go (dxs := []) (fun _ => .nil) inF_len hl1 bs S1 hn h2 post fun e x _ d H' z => z
    obtain ⟨x, y, e, q⟩ := inF_go h
    rw [List.append_nil] at e
    subst e
    exact q
theorem simE_notInO (ha : SimE g W ta fa) (hb : SimE g W tb fb) : SimE g W (tOp (rNotInO (g.c C) (PSp g 2 F)) ta tb) (fCall (notInF C F) [false, false] [] (fCons fa (fCons fb fNil))) := by
  intro H σ e L Q o hl S hf post
  have h0 := simA_cons ha (simA_cons hb simA_nil)
  show tCons ta (tCons tb tNil) σ H (fun vs H2 => match vs with | [x, y] => rNotInO (g.c C) (PSp g 2 F) x y H2 Q | _ => False)
  rcases bnd_inv hf with ⟨e1, x, h1, rfl⟩ | ⟨e1, rs, h1, h2⟩
  · exact h0 H σ e L _ _ hl S h1 post
  · refine h0 H σ e L _ _ hl S h1 fun vs H1 hl1 bs S1 => ?_
    have hn : vs.length + ([] : List V).length = 2 := by
      obtain ⟨q, h3, _⟩ := Option.bind_eq_some_iff.mp h2
      have h4 := pass_len h3
      have h5 := bs.length
      have h6 : ([false, false] : List Bool).length = 2 := rfl
      have h7 : ([] : List V).length = 0 := rfl
      omega
    have h : PSp g 2 (notInF C F) (vs ++ []) H1 Q (WE W σ) := call_go (dxs := []) (fun _ => .nil) notInF_len hl1 bs S1 hn h2 post fun e x _ d H' z => z
    obtain ⟨x, y, e, q⟩ := notInF_go h
    rw [List.append_nil] at e
    subst e
    exact q
theorem simE_lenO (ha : SimE g W ta fa) : SimE g W (tCB (rLenO (g.c C) (PSp g 1 F)) (tCons ta tNil)) (fCall (lenF C F) [false] [] (fCons fa fNil)) := by
  intro H σ e L Q o hl S hf post
  have h0 := simA_cons ha simA_nil
  show tCons ta tNil σ H (fun vs H2 => rLenO (g.c C) (PSp g 1 F) vs H2 Q)
  rcases bnd_inv hf with ⟨e1, x, h1, rfl⟩ | ⟨e1, rs, h1, h2⟩
  · exact h0 H σ e L _ _ hl S h1 post
  · refine h0 H σ e L _ _ hl S h1 fun vs H1 hl1 bs S1 => ?_
    have hn : vs.length + ([] : List V).length = 1 := by
      obtain ⟨q, h3, _⟩ := Option.bind_eq_some_iff.mp h2
      have h4 := pass_len h3
      have h5 := bs.length
      have h6 : ([false] : List Bool).length = 1 := rfl
      have h7 : ([] : List V).length = 0 := rfl
      omega
    have h : PSp g 1 (lenF C F) (vs ++ []) H1 Q (WE W σ) := call_go (dxs := []) (fun _ => .nil) lenF_len hl1 bs S1 hn h2 post fun e x _ d H' z => z
    have q := lenF_go h
    rw [List.append_nil] at q
    exact q
theorem simE_boolO (ha : SimE g W ta fa) : SimE g W (tCB (rBoolO (g.c C) (PSp g 1 F)) (tCons ta tNil)) (fCall (boolF C F) [false] [] (fCons fa fNil)) := by
  intro H σ e L Q o hl S hf post
  have h0 := simA_cons ha simA_nil
  show tCons ta tNil σ H (fun vs H2 => rBoolO (g.c C) (PSp g 1 F) vs H2 Q)
  rcases bnd_inv hf with ⟨e1, x, h1, rfl⟩ | ⟨e1, rs, h1, h2⟩
  · exact h0 H σ e L _ _ hl S h1 post
  · refine h0 H σ e L _ _ hl S h1 fun vs H1 hl1 bs S1 => ?_
    have hn : vs.length + ([] : List V).length = 1 := by
      obtain ⟨q, h3, _⟩ := Option.bind_eq_some_iff.mp h2
      have h4 := pass_len h3
      have h5 := bs.length
      have h6 : ([false] : List Bool).length = 1 := rfl
      have h7 : ([] : List V).length = 0 := rfl
      omega
    have h : PSp g 1 (boolF C F) (vs ++ []) H1 Q (WE W σ) := call_go (dxs := []) (fun _ => .nil) boolF_len hl1 bs S1 hn h2 post fun e x _ d H' z => z
    have q := boolF_go h
    rw [List.append_nil] at q
    exact q
end
end Sd
namespace Sd
open PySem PySem.Spec PySem.W PyProof.Rows L2
section
variable {prog : Program} {w : World} {A : Around} {E : Value → Shared → Prop} {h : Heap} {g : Array GenState} {d : PySem.Drawn} {t : Nat} {os : OsState} {C x f : Addr} {y : Value} {B : String} {bm : List Value}
theorem objNe_any (X : h.OwnEqNoNe x C f B bm) (hu : A.units < cLine) {Q : Fin → Shared → Prop}
    (hcall : wpAny (model prog w) A (call (.ref f) [.ref x, y]) (fun v s' => ∃ b, v = .bool b ∧ Q (.done (.ret (.bool (!b)))) s') E ⟨h, g, d, t, os⟩) :
    wpAny (model prog w) A (Builtin.«object.__ne__» ⟨[.ref x, y], []⟩) Q E ⟨h, g, d, t, os⟩ := by
  unfold Builtin.«object.__ne__»
  repeat (first
    | with_reducible refine wpAny_cRoomFor hu ?_
    | (refine wpAny_bind (m := callSpecialIfBound? (.ref x) (Str.ofString "__eq__") [y])
        (wpAny_callSpecialIfBound?_own X.ownEq (wpAny_mono hcall (fun r s' hr => by
          obtain ⟨b, rfl, hq⟩ := hr
          repeat (first | exact hq | exact wpAny_pure hq | exact wpAny_truthy_bool hq | (refine wpAny_bind (m := truthy (.bool _)) (wpAny_truthy_bool ?_)) | wp_step)) fun _ _ e => e)))
    | wp_step)
theorem tryNe_any (FB : CmpFacts B bm) (X : h.OwnEqNoNe x C f B bm) (hu : A.units + 1 < cLine) {Q : Option Value → Shared → Prop}
    (hcall : wpAny (model prog w) A.in1 (call (.ref f) [.ref x, y]) (fun v s' => ∃ b, v = .bool b ∧ Q (some (.bool (!b))) s') E ⟨h, g, d, t, os⟩) :
    wpAny (model prog w) A (tryCompare (.ref x) "__ne__" y) Q E ⟨h, g, d, t, os⟩ := by
  obtain ⟨o, of, nm, q, N, bs, hdct, sn, sub, ab, col, dd, k0, k1, k2, k3, k5, newId, mN, yv, hx, hc, hC, hn, _, _, _, _, _, hne⟩ := id X
  simp only [tryCompare]
  refine wpAny_bind (wpAny_callSpecialIfBound?_inst hx hc hC hn hne FB.mro FB.ne (wpAny_call (codeAny_call_builtin FB.ne.plain F.cmpEntry_ne
    (wpAny_check_slot_inst F.cmpKind_ne F.cmpSplit_ne (F.cmpArgs_ne _ _) FB.hasObject hx hc hC
      (objNe_any (A := A.in1) X hu (wpAny_mono hcall (fun v s' hv => ?_) fun _ _ e => e))))))
  obtain ⟨b, rfl, hq⟩ := hv
  first | exact ⟨b, rfl, wpAny_pure hq⟩ | exact ⟨b, rfl, wpAny_pure (wpAny_pure hq)⟩ | exact ⟨b, rfl, hq⟩
end
section
variable {prog : Program} {w : World} {A : Around} {E : Value → Shared → Prop} {h₀ : Heap} {L : Addr} {m : Str → Option Value} {s : Shared} {K : Frag} {x C : Addr} {ox : Obj} {od : Option Obj} {b tb : Value}
theorem cmp_one {op : CmpOp} {Q : Value → Shared → Prop} (hu : A.units < cLine) (F : Fr h₀ L s.heap m) (X₀ : K.In h₀) (I : InstAt s.heap x ox C od) (hb : Looks (model prog w) s.heap (typeOf b) tb) (hn : notFirst K C tb = true)
    (one : wpAny (model prog w) A (tryCompare (.ref x) (cmpInfo op).2.1 b) (fun r s' => ∃ v, r = some v ∧ Q v s') E s) : wpAny (model prog w) A (richCompare op (.ref x) b) Q E s := by
  have X := X₀.keeps F.keep
  unfold richCompare
  simp only [oneThing_ref]
  refine wpAny_holding (wpAny_bind (wpAny_cRoomFor hu ?_))
  refine wpAny_bind (I.type.here (wpAny_bind (hb.here ?_)))
  split
  · rename_i q
    have e : subIn K tb (.ref C) = some false := by
      rcases Bool.or_eq_true_iff.mp hn with e | e
      · rw [beq_iff_eq.mp e] at q; simp at q
      · exact beq_iff_eq.mp e
    refine wpAny_bind ((looks_subIn X e).here ?_)
    simp only [Bool.false_eq_true, if_false]
    refine wpAny_bind (wpAny_mono one (fun r s' z => ?_) fun _ _ e => e)
    obtain ⟨v, rfl, hq⟩ := z
    exact wpAny_pure hq
  · refine wpAny_bind (wpAny_pure ?_)
    simp only [Bool.false_eq_true, if_false]
    refine wpAny_bind (wpAny_mono one (fun r s' z => ?_) fun _ _ e => e)
    obtain ⟨v, rfl, hq⟩ := z
    exact wpAny_pure hq
end
def neCB (K : PySem.W.Frag) (C : Str) : Bool := neB K (He.ga K C)
def rNeOX (K : PySem.W.Frag) (C : Addr) (sp : Sp) : R2 := fun x y H Q => ∃ (a dx : Addr) (fs : List (Str × V)) (t : Value), x = .ref a ∧ H a = some (.ins C dx fs) ∧ TyX K H y t ∧ PySem.W.notFirst K C t = true ∧ sp [.ref a, y] H (fun v H1 => ∃ b, v = .bl b ∧ Q (.bl (!b)) H1) E0
section
variable {X : Cx} {lv : Nat} {C : Str} {ps : List Str} {sp : Sp}
theorem o_neOX (c : CalQ (gX X) X.mg X.base lv C ps sp) (hn : neB (gX X).K ((gX X).c C) = true) (hr : Room (lv + 1) X.A) : OpR X (compareOp .NotEq) (rNeOX X.K ((gX X).c C) sp) := by
  obtain ⟨f, fd, F, hs, hf, hb⟩ := c.ex
  intro pins s σ H x y v u Q I rx ry h
  obtain ⟨a, dx, fs, t, rfl, ha, ty, nf, hsp⟩ := h
  cases rx
  obtain ⟨mA, J, _⟩ := ins_get I.hok ha
  obtain ⟨od, J, _⟩ := J.look
  obtain ⟨m, hF⟩ := I.fr
  obtain ⟨P, kx, hP, _⟩ := kit_of I ry ty
  have hty0 := kx.ty (model X.prog X.w) _ I.kIn hP
  obtain ⟨nm, q, N, bs, hd, sn, sub, ab, col, dd, k0, k1, k2, k3, k5, n, oN, es, ep, hC, hN, hes, hk, he, hne⟩ := neB_ok hn hs
  have kin := I.kIn
  have hty : ∃ of, s.heap.get? f = some of ∧ of.cls = .type "function" := by
    have e := beq_iff_eq.mp hf
    simp only [PySem.W.typeIn] at e
    cases ho : (gX X).K.lookup f with
    | none => rw [ho] at e; cases e
    | some o =>
      rw [ho] at e
      exact ⟨o, kin _ _ ho, Option.some.inj e⟩
  obtain ⟨of, hof, hoc⟩ := hty
  have r2 : Vals [V.ref a, y] [Value.ref a, u] := .cons rfl (.cons ry .nil)
  have sb : Sub X lv X.A.in1 := Sub.in1 ⟨hr, rfl⟩
  have run := run_sub F sb hb (E := E0) passL I r2 hsp
  have X' : s.heap.OwnEqNoNe a ((gX X).c C) f "object" [.type "object"] :=
    ⟨_, of, nm, q, N, bs, hd, sn, sub, ab, col, dd, k0, k1, k2, k3, k5, n, nsFind es, _, J.at_, J.cls, kin _ _ hC, ⟨oN, es, ep, kin _ _ hN, hes, hk, fun _ => rfl⟩, he, hof, hoc, PySem.F.cmp_object.mro, PySem.F.cmp_object.eq.lookup, hne⟩
  show wpAny (model X.prog X.w) X.A (richCompare .NotEq (.ref a) u) (EP X pins σ Q) X.xe s
  refine cmp_one (op := .NotEq) (tb := t) (by have := hr.un; omega) hF I.ok.mod.kin J hty0 nf ?_
  obtain ⟨hp, g, d, t, os⟩ := s
  refine tryNe_any PySem.F.cmp_object X' (by have := hr.un; omega) (wpAny_mono run (fun w s' q => ?_) fun _ _ z => z)
  obtain ⟨z, H1, I1, rz, b, rfl, q⟩ := q
  cases rz
  exact ⟨b, rfl, _, rfl, .bl (!b), H1, I1, rfl, q⟩
end
def neF (C : Str) (F : PF) : PF
  | [.fz x, .fz y] => if eqOk C x y = true then (match F [.fz x, .fz y] with
    | some ([a, b], .ok (.fz (.bl r))) => some ([a, b], .ok (.fz (.bl (!r))))
    | _ => none) else none
  | _ => none
theorem neF_inv {C : Str} {F : PF} {as : List SV} {w : List SV × RS} (h : neF C F as = some w) : ∃ x y a b r, as = [.fz x, .fz y] ∧ eqOk C x y = true ∧ F [.fz x, .fz y] = some ([a, b], .ok (.fz (.bl r))) ∧ w = ([a, b], .ok (.fz (.bl (!r)))) := by
  unfold neF at h
  split at h
  · split at h
    · rename_i hc
      split at h
      · rename_i hF
        cases h
        exact ⟨_, _, _, _, _, rfl, hc, hF, rfl⟩
      · cases h
    · cases h
  · cases h
theorem neF_len {C : Str} {F : PF} : ∀ as w, as.length = 2 → neF C F as = some w → w.1.length = 2 := fun as w _ h => by
  obtain ⟨_, _, _, _, _, _, _, _, rfl⟩ := neF_inv h; rfl
section
variable {g : Ga} {C : Str} {F : PF}
theorem neF_go {vs : List V} {H : Hp} {Q : VK} {E : XK} (nf : NfC g C) (h : PSp g 2 (neF C F) vs H Q E) : ∃ x y, vs = [x, y] ∧ rNeOX g.K (g.c C) (PSp g 2 F) x y H Q := by
  obtain ⟨L, as, as', o, l1, l2, l3, S, hf, post⟩ := h
  obtain ⟨x, y, a, b, r, rfl, hok, hF, hw⟩ := neF_inv hf
  cases hw
  match vs, l1 with
  | [v, w], _ =>
    refine ⟨v, w, rfl, ?_⟩
    obtain ⟨A, z⟩ := id S
    have rx : Rp g (mns H A) v x := z.top
    have ry : Rp g (mns H A) w y := SRA.top (L := L) (z.tail fun _ q => by cases q)
    cases x with
    | ins D fs =>
      have hok' := Bool.and_eq_true_iff.mp (show (decide (D = C) && kindOk y) = true from hok)
      have hD := of_decide_eq_true hok'.1
      subst hD
      cases rx with
      | ins cp hx hfs =>
        have hty : ∃ t, TyX g.K H w t ∧ PySem.W.notFirst g.K (g.c D) t = true := by
          cases y with
          | ins D' fs' =>
            have := tyx_ins (A := A) (Cn.of_rp ry)
            exact ⟨_, this.1, nf.own D' (List.contains_iff_mem.mp hok'.2) this.2.pr⟩
          | _ =>
            first
            | exact ⟨_, tyx_of (A := A) (Cn.of_rp ry) rfl, nf.ty _ (by simp [kindsN])⟩
            | cases hok'.2
        obtain ⟨t, ht, hn⟩ := hty
        refine ⟨_, _, _, t, rfl, mns_le _ _ hx, ht, hn, L, [.fz (.ins D fs), .fz y], [a, b], _, rfl, rfl, rfl, S, hF, fun u H' S' => ?_⟩
        have hu : u = .bl r := by
          obtain ⟨A', z'⟩ := id S'
          have := z'.top
          cases this
          rfl
        subst hu
        exact ⟨r, rfl, post _ H' (S'.tail.scal fun G => .bl _)⟩
    | _ => cases hok
variable {W : WX} {ta tb : TE} {fa fb : FE}
theorem simE_neOX (nf : NfC g C) (ha : SimE g W ta fa) (hb : SimE g W tb fb) : SimE g W (tOp (rNeOX g.K (g.c C) (PSp g 2 F)) ta tb) (fCall (neF C F) [false, false] [] (fCons fa (fCons fb fNil))) := by
  intro H σ e L Q o hl S hf post
  have h0 := simA_cons ha (simA_cons hb simA_nil)
  show tCons ta (tCons tb tNil) σ H (fun vs H2 => match vs with | [x, y] => rNeOX g.K (g.c C) (PSp g 2 F) x y H2 Q | _ => False)
  rcases bnd_inv hf with ⟨e1, x, h1, rfl⟩ | ⟨e1, rs, h1, h2⟩
  · exact h0 H σ e L _ _ hl S h1 post
  · refine h0 H σ e L _ _ hl S h1 fun vs H1 hl1 bs S1 => ?_
    have hn : vs.length + ([] : List V).length = 2 := by
      obtain ⟨q, h3, _⟩ := Option.bind_eq_some_iff.mp h2
      have h4 := pass_len h3
      have h5 := bs.length
      have h6 : ([false, false] : List Bool).length = 2 := rfl
      have h7 : ([] : List V).length = 0 := rfl
      omega
    have h : PSp g 2 (neF C F) (vs ++ []) H1 Q (WE W σ) := call_go (dxs := []) (fun _ => .nil) neF_len hl1 bs S1 hn h2 post fun e x _ d H' z => z
    obtain ⟨x, y, e, q⟩ := neF_go nf h
    rw [List.append_nil] at e
    subst e
    exact q
end
end Sd
namespace Sd
open PySem PySem.Spec PyProof.Rows L2
theorem entry_set_eq : entryFor table "set.__eq__" = some Builtin.«frozenset.__eq__» :=
  entryFor_alias (id' := "frozenset.__eq__") (by kernel_rfl) rfl (by decide +kernel) (by kernel_rfl)
section
variable {P : Program} {w : World} {A : Around} {E : Value → Shared → Prop} {s : Shared} {a b : Addr} {ks ls : List Str}
theorem tx_unseen {Q : List (Int × Value) → Shared → Prop} {o o' : Obj} {es es' : Array (Int × Value)} {ep ep' : Nat} {t t' : SetTable}
    (ho : s.heap.get? a = some o) (hd : o.data = .set es ep t) (T : TxSet w ks es t) (ho' : s.heap.get? b = some o') (hd' : o'.data = .set es' ep' t') (T' : TxSet w ls es' t')
    (h : Q es.toList s) : wpAny (model P w) A (Builtin.Frozenset.walkUnseen a b) Q E s := by
  unfold Builtin.Frozenset.walkUnseen
  refine wpAny_bind (wpAny_setEntries_of ho hd T.ft ?_)
  refine wpAny_bind (wpAny_setEntries_of ho' hd' T'.ft ?_)
  refine wpAny_bind ?_
  refine wpAny_forIn_list _ (fun rest q s' => s' = s ∧ q = (none, ()) ∧ ∀ e ∈ rest, ∃ z tk, e.2 = Value.str z tk) _ ?_ ?_ _ _ ⟨rfl, rfl, fun e he => ?_⟩
  · rintro x rest q s' ⟨rfl, rfl, hall⟩
    obtain ⟨z, tk, e⟩ := hall x List.mem_cons_self
    obtain ⟨x1, x2⟩ := x
    cases e
    show wpAny _ _ (pure true >>= _) _ _ _
    refine wpAny_bind (wpAny_pure ?_)
    exact wpAny_pure ⟨rfl, rfl, fun e he => hall e (List.mem_cons_of_mem _ he)⟩
  · rintro q s' ⟨rfl, rfl, _⟩
    exact wpAny_pure h
  · rcases List.mem_append.mp he with he | he
    · obtain ⟨zs, p, _⟩ := T.els
      obtain ⟨z, _, ⟨tk, q⟩, _⟩ := paired_mem p e he
      exact ⟨z, tk, q⟩
    · obtain ⟨zs, p, _⟩ := T'.els
      obtain ⟨z, _, ⟨tk, q⟩, _⟩ := paired_mem p e he
      exact ⟨z, tk, q⟩
theorem tx_subset {id : String} {Q : Bool → Shared → Prop} (R : SetX w s.heap a ks) (R' : SetX w s.heap b ls) (hl : ks.length ≤ ls.length) (h : Q (decide (∀ z ∈ ks, z ∈ ls)) s) :
    wpAny (model P w) A (Builtin.Frozenset.subsetOf id a b) Q E s := by
  obtain ⟨o, es, ep, t, ho, hx, hd, T⟩ := R
  obtain ⟨o', es', ep', t', ho', hx', hd', T'⟩ := R'
  unfold Builtin.Frozenset.subsetOf
  unfold Builtin.Frozenset.sizeOf
  refine wpAny_bind (wpAny_bind (wpAny_setEntries_of ho hd T.ft (wpAny_pure ?_)))
  refine wpAny_bind (wpAny_bind (wpAny_setEntries_of ho' hd' T'.ft (wpAny_pure ?_)))
  rw [if_neg (by rw [T.size, T'.size]; omega)]
  refine wpAny_bind (wpAny_setEpoch_of ho hd T.ft ?_)
  refine wpAny_bind (tx_unseen ho hd T ho' hd' T' ?_)
  obtain ⟨zs, p, pm⟩ := T.els
  refine wpAny_bind ?_
  refine wpAny_forIn_list _ (fun rest q s' => s' = s ∧ q = (none, ()) ∧ ∃ ys, Paired (TxE w) rest ys ∧ ((∀ z ∈ ks, z ∈ ls) ↔ ∀ z ∈ ys, z ∈ ls)) _ ?_ ?_ _ _ ⟨rfl, rfl, zs, p, ⟨fun g z hz => g z (pm.mem_iff.mp hz), fun g z hz => g z (pm.mem_iff.mpr hz)⟩⟩
  · rintro x rest q s' ⟨rfl, rfl, ys, pr, g⟩
    cases pr with
    | @cons _ y _ ys r pr =>
    obtain ⟨⟨tk, e⟩, hh⟩ := r
    obtain ⟨x1, x2⟩ := x
    cases e
    cases (show x1 = _ from hh)
    refine wpAny_bind (wpAny_holding ?_)
    refine PySem.W.setFind_any (knd := PySem.strKind P w) (k := y) (S := fun k => decide (k ∈ ls)) (strKind_is P w y tk) rfl ho' hd' T'.elems (fun k => by rw [decide_eq_true_eq]; exact (T'.has k).symm) (by rw [T'.size]; exact T'.bd) T'.ft fun r hr => ?_
    cases r with
    | none =>
      have hn : y ∉ ls := of_decide_eq_false hr.symm
      refine wpAny_pure (wpAny_pure ?_)
      rw [decide_eq_false (fun f => hn (g.mp f y List.mem_cons_self))] at h
      exact h
    | some i =>
      have hn : y ∈ ls := of_decide_eq_true hr.symm
      show wpAny _ _ (Builtin.Frozenset.unchanged id a ep >>= _) _ _ _
      unfold Builtin.Frozenset.unchanged
      refine wpAny_bind (wpAny_bind (wpAny_setEpoch_of ho hd T.ft ?_))
      rw [if_neg (by simp)]
      refine wpAny_pure (wpAny_pure ⟨rfl, rfl, ys, pr, ⟨fun f z hz => g.mp f z (List.mem_cons_of_mem _ hz), fun f => g.mpr fun z hz => ?_⟩⟩)
      rcases List.mem_cons.mp hz with rfl | hz
      · exact hn
      · exact f z hz
  · rintro q s' ⟨rfl, rfl, ys, pr, g⟩
    cases pr
    rw [decide_eq_true (g.mpr fun z hz => by cases hz)] at h
    exact wpAny_pure h
def sameS (ks ls : List Str) : Bool := decide (ks.length = ls.length) && decide (∀ z ∈ ks, z ∈ ls)
theorem tx_eq {Q : Value → Shared → Prop} (hu : A.units < cLine) (R : SetX w s.heap a ks) (R' : SetX w s.heap b ls) (h : Q (.bool (sameS ks ls)) s) :
    wpAny (model P w) A (compareOp .Eq (.ref a) (.ref b)) Q E s := by
  have ⟨o, es, ep, t, ho, hx, hd, T⟩ := R
  have ⟨o', es', ep', t', ho', hx', hd', T'⟩ := R'
  have ta : s.TypeIs (.ref a) "set" := ⟨o, ho, hx.1⟩
  have tb : s.TypeIs (.ref b) "set" := ⟨o', ho', hx'.1⟩
  refine wpAny_richCompare_same_room (op := .Eq) ta tb PySem.F.slot_set_eq (wpAny_call_entry PySem.F.slot_set_eq ta entry_set_eq ?_ (PySem.F.args_set_eq_2 _ _)) hu
  show wpAny _ _ (Builtin.Frozenset.slot1 "__eq__" ⟨[.ref a, .ref b], []⟩ >>= _) _ _ s
  refine wpAny_bind ?_
  unfold Builtin.Frozenset.slot1 slotArgs
  simp only [List.isEmpty_nil, Bool.not_true, Bool.false_eq_true, ↓reduceIte, bind_assoc, List.length_cons, List.length_nil, bne_self_eq_false]
  refine wpAny_bind (wpAny_pure ?_)
  refine wpAny_pure ?_
  try dsimp only
  unfold Builtin.Frozenset.isAnySet
  refine wpAny_bind ?_
  unfold orM
  refine wpAny_bind (wpAny_isInstance (T := "set") tb PySem.F.sub_set_set ?_)
  show wpAny _ _ (pure true) _ _ _
  refine wpAny_pure ?_
  simp only [Bool.not_true, Bool.false_eq_true, if_false]
  unfold Builtin.Frozenset.addrOf
  refine wpAny_bind (wpAny_pure (wpAny_bind (wpAny_pure ?_)))
  unfold Builtin.Frozenset.sizeOf
  refine wpAny_bind (wpAny_bind (wpAny_setEntries_of ho hd T.ft (wpAny_pure ?_)))
  refine wpAny_bind (wpAny_bind (wpAny_setEntries_of ho' hd' T'.ft (wpAny_pure ?_)))
  refine wpAny_bind ?_
  unfold sameS at h
  have fin : ∀ r : Bool, Q (.bool r) s → wpAny (model P w) A.in1 (ret (Value.bool r)) (fun fin s' => ∃ v, fin = Fin.done (Flow.ret v) ∧ v ≠ Value.notImplemented ∧ Q v s') E s := fun r q => wpAny_pure ⟨_, rfl, (fun x => nomatch x), q⟩
  by_cases hn : ks.length = ls.length
  · rw [if_neg (by rw [T.size, T'.size, hn]; simp)]
    rw [decide_eq_true hn, Bool.true_and] at h
    refine wpAny_bind ?_
    unfold andM
    refine wpAny_bind (wpAny_isInstance (T := "set") ta PySem.F.sub_set_frozenset ?_)
    show wpAny _ _ (pure false) _ _ _
    refine wpAny_pure ?_
    simp only [Bool.false_eq_true, if_false]
    exact tx_subset R R' (by omega) (fin _ h)
  · rw [if_pos (by rw [T.size, T'.size]; simpa using hn)]
    rw [decide_eq_false hn, Bool.false_and] at h
    exact wpAny_pure (fin _ h)
end
def rEqSt (w : World) : R2 := fun x y H Q => ∃ a b ks ls, x = .ref a ∧ y = .ref b ∧ H a = some (TxO w a ks) ∧ H b = some (TxO w b ls) ∧ Q (.bl (sameS ks ls)) H
theorem o_eqSt {X : Cx} {k : Nat} (hr : Room k X.A) : OpR X (compareOp .Eq) (rEqSt X.w) := by
  intro pins s σ H x y v u Q I rx ry h
  obtain ⟨a, b, ks, ls, rfl, rfl, ha, hb, q⟩ := h
  cases rx; cases ry
  have h65 := room65 hr
  exact tx_eq (by omega) (txo_get I ha) (txo_get I hb) ⟨.bl _, H, I, rfl, q⟩
def pEqSt : PV → PV → Option SV
  | .tset ks, .tset ls => some (.fz (.bl (sameS ks ls)))
  | _, _ => none
theorem op_eqSt {g : Ga} : Op2Ok g (rEqSt g.w) pEqSt := by
  intro A H L v w x y s Q z cx cy hp q
  unfold pEqSt at hp
  split at hp
  · cases hp
    obtain ⟨a, rfl, h1⟩ := cx
    obtain ⟨b, rfl, h2⟩ := cy
    exact ⟨_, _, _, _, rfl, rfl, h1, h2, q _ _ (z.scal fun G => .bl _)⟩
  · cases hp
end Sd
namespace Sd.Pu
open PySem PySem.Spec PyProof.Rows L2
def t_Deeds_len (g : Ga) (E : XK) : TS := (tRet (tCB (rLen2 g.K g.w) (tCons (tFld g.K (tVar 0) "kept") tNil)))
noncomputable def f_Deeds_len : FS := (fRet (fCB pLen (fCons (fUn (pFld "kept") (fVar 0)) fNil)))
@[irreducible] noncomputable def F_Deeds_len : PF := fnOf [] 1 1 f_Deeds_len
theorem un_Deeds_len : F_Deeds_len = fnOf [] 1 1 f_Deeds_len := by rw [F_Deeds_len]
theorem sim_Deeds_len {g : Ga} {E : XK}  : SimS g (wOf E) [] (t_Deeds_len g E) f_Deeds_len := (simS_ret (simE_cb op_len (simA_cons (simE_fld (simE_var 0)) simA_nil)))
def t_Deeds_bool (g : Ga) (E : XK) : TS := (tRet (tOp rGt (tCB (rLen2 g.K g.w) (tCons (tFld g.K (tVar 0) "kept") tNil)) (tC (.int 0))))
noncomputable def f_Deeds_bool : FS := (fRet (fOp (pCmp bGt) (fCB pLen (fCons (fUn (pFld "kept") (fVar 0)) fNil)) (fC (.int 0))))
@[irreducible] noncomputable def F_Deeds_bool : PF := fnOf [] 1 1 f_Deeds_bool
theorem un_Deeds_bool : F_Deeds_bool = fnOf [] 1 1 f_Deeds_bool := by rw [F_Deeds_bool]
theorem sim_Deeds_bool {g : Ga} {E : XK}  : SimS g (wOf E) [] (t_Deeds_bool g E) f_Deeds_bool := (simS_ret (simE_op (op_cmp cGt) (simE_cb op_len (simA_cons (simE_fld (simE_var 0)) simA_nil)) (simE_c fun G => .int _)))
def t_Deeds_contains (g : Ga) (E : XK) : TS := (tRet (tAndV (tCB (rIsi g.K) (tCons (tVar 1) (tCons (tC (.ty "str")) tNil))) (tOp (rInX g.K g.w) (tVar 1) (tFld g.K (tVar 0) "kept"))))
noncomputable def f_Deeds_contains : FS := (fRet (fAndV (fCB pIsi (fCons (fVar 1) (fCons (fC (.ty "str")) fNil))) (fOp pIn (fVar 1) (fUn (pFld "kept") (fVar 0)))))
@[irreducible] noncomputable def F_Deeds_contains : PF := fnOf [] 2 2 f_Deeds_contains
theorem un_Deeds_contains : F_Deeds_contains = fnOf [] 2 2 f_Deeds_contains := by rw [F_Deeds_contains]
theorem sim_Deeds_contains {g : Ga} {E : XK} (K : KitC g) : SimS g (wOf E) [] (t_Deeds_contains g E) f_Deeds_contains := (simS_ret (simE_and (simE_cb (op_isi K) (simA_cons (simE_var 1) (simA_cons (simE_c fun G => .ty _) simA_nil))) (simE_op op_inX (simE_var 1) (simE_fld (simE_var 0)))))
noncomputable def ce1_k15_pick : FE := (fOp pIx (fVar 1) (fCall0 F_law_draw [true, false] [] (fCons (fVar 0) (fCons (fCB pLen (fCons (fVar 1) fNil)) fNil))))
def t_k15_pick (g : Ga) (E : XK) : TS := (tRet (tLc (iRng1 (tCons (tCall (PSp g 2 F_law_draw) [] E (tCons (tVar 0) (tCons (tOp (rMulX g.K) (tC (.int 2)) (tCB (rLen2 g.K g.w) (tCons (tVar 1) tNil))) tNil))) tNil)) (gName 2) tYes (tOp (rIx2 g.K g.w) (tVar 1) (tCall (PSp g 2 F_law_draw) [] E0 (tCons (tVar 0) (tCons (tCB (rLen2 g.K g.w) (tCons (tVar 1) tNil)) tNil)))) [2]))
noncomputable def f_k15_pick : FS := (fRet (fLc 3 (fiRng1 (fCons (fCall F_law_draw [true, false] [] (fCons (fVar 0) (fCons (fOp pMul (fC (.int 2)) (fCB pLen (fCons (fVar 1) fNil))) fNil))) fNil)) (fgName 2) fYes ce1_k15_pick [2]))
@[irreducible] noncomputable def F_k15_pick : PF := fnOf [0] 3 2 f_k15_pick
theorem un_k15_pick : F_k15_pick = fnOf [0] 3 2 f_k15_pick := by rw [F_k15_pick]
theorem fl_k15_pick : ∀ as w, as.length = 2 → F_k15_pick as = some w → w.1.length = 2 := by rw [un_k15_pick]; exact fnOf_len
theorem sim_k15_pick {g : Ga} {E : XK}  : SimS g (wOf E) [0] (t_k15_pick g E) f_k15_pick := (simS_ret (simE_lc (M' := [0, 1]) (W' := (wOf E)) (by decide) (by decide) (by decide) (simI_rng1 (simA_cons (simE_call (fun _ _ _ _ h => h) fl_law_draw RpL.none (by rfl) (simA_cons (simE_var 0) (simA_cons (simE_op op_mulX (simE_c fun G => .int _) (simE_cb op_len (simA_cons (simE_var 1) simA_nil))) simA_nil))) simA_nil)) simG_name simT_yes (simE_op op_ix (simE_var 1) (simE_call0 (fun _ _ _ _ h => h) fl_law_draw RpL.none (by rfl) (simA_cons (simE_var 0) (simA_cons (simE_cb op_len (simA_cons (simE_var 1) simA_nil)) simA_nil))))))
noncomputable def lb1_k15_deep : FS := (fAsg (fTup (fCons (fVar 0) fNil)) (fgName 0))
def t_k15_deep (g : Ga) (E : XK) : TS := (tSeq (tFor (iRng1 (tCons (tC (.int 450)) tNil)) (gName 1) (tAsg (tTup (tCons (tVar 0) tNil)) (gName 0))) (tRet (tVar 0)))
noncomputable def f_k15_deep : FS := (fSeq (fFor (fiRng1 (fCons (fC (.int 450)) fNil)) (fgName 1) lb1_k15_deep) (fRet (fVar 0)))
@[irreducible] noncomputable def F_k15_deep : PF := fnOf [] 2 1 f_k15_deep
theorem un_k15_deep : F_k15_deep = fnOf [] 2 1 f_k15_deep := by rw [F_k15_deep]
theorem fl_k15_deep : ∀ as w, as.length = 1 → F_k15_deep as = some w → w.1.length = 1 := by rw [un_k15_deep]; exact fnOf_len
theorem sim_k15_deep {g : Ga} {E : XK}  : SimS g (wOf E) [] (t_k15_deep g E) f_k15_deep := (simS_seq (simS_for (simI_rng1 (simA_cons (simE_c fun G => .int _) simA_nil)) simG_name (simS_asg (simE_tup (simA_cons (simE_var 0) simA_nil)) simG_name)) (simS_ret (simE_var 0)))
def t_k15_flag (g : Ga) (E : XK) : TS := (tRet (tAndV (tCB (rIsi g.K) (tCons (tVar 0) (tCons (tC (.ty "bool")) tNil))) (tOp (rEqX g.K) (tVar 0) (tVar 1))))
noncomputable def f_k15_flag : FS := (fRet (fAndV (fCB pIsi (fCons (fVar 0) (fCons (fC (.ty "bool")) fNil))) (fOp pEq (fVar 0) (fVar 1))))
@[irreducible] noncomputable def F_k15_flag : PF := fnOf [] 2 2 f_k15_flag
theorem un_k15_flag : F_k15_flag = fnOf [] 2 2 f_k15_flag := by rw [F_k15_flag]
theorem fl_k15_flag : ∀ as w, as.length = 2 → F_k15_flag as = some w → w.1.length = 2 := by rw [un_k15_flag]; exact fnOf_len
theorem sim_k15_flag {g : Ga} {E : XK} (K : KitC g) : SimS g (wOf E) [] (t_k15_flag g E) f_k15_flag := (simS_ret (simE_and (simE_cb (op_isi K) (simA_cons (simE_var 0) (simA_cons (simE_c fun G => .ty _) simA_nil))) (simE_op op_eqX (simE_var 0) (simE_var 1))))
noncomputable def lb1_k15_else : FS := (fIf (fOr (fNot (fTru (fCall F_k15_flag [false, false] [] (fCons (fEqO "Deeds" F_Deeds_eq (fVar 0) (fVar 3)) (fCons (fC (.bl false)) fNil))))) (fNot (fTru (fCall F_k15_flag [false, false] [] (fCons (fCall (neF "Deeds" F_Deeds_eq) [false, false] [] (fCons (fVar 0) (fCons (fVar 3) fNil))) (fCons (fC (.bl true)) fNil)))))) (fRet (fC (.bl false))) fNext)
def t_k15_else (g : Ga) (E : XK) : TS := (tSeq (tFor (iSeq2 g.K g.w (tLst (tCons (tCB (rSortedA g.K g.w) (tCons (tCB (rSetX g.K g.w) (tCons (tVar 1) tNil)) tNil)) (tCons (tCB (rTupS g.K) (tCons (tCB (rSortedA g.K g.w) (tCons (tCB (rSetX g.K g.w) (tCons (tVar 1) tNil)) tNil)) tNil)) (tCons (tCB (rListS2 g.K g.w) (tCons (tVar 1) tNil)) (tCons (tC .non) (tCons (tC (.bl true)) (tCons (tOp (rIx2 g.K g.w) (tVar 2) (tC (.int 0))) (tCons (tCB (rLenT g.w) (tCons (tCB (rSetX g.K g.w) (tCons (tVar 1) tNil)) tNil)) tNil))))))))) (gName 3) (tIfS (tOr (tNot (tTru2 g.K g.w (tCall (PSp g 2 F_k15_flag) [] E (tCons (tOp (rEqO g.K (g.c "Deeds") (PSp g 2 F_Deeds_eq)) (tVar 0) (tVar 3)) (tCons (tC (.bl false)) tNil))))) (tNot (tTru2 g.K g.w (tCall (PSp g 2 F_k15_flag) [] E (tCons (tOp (rNeOX g.K (g.c "Deeds") (PSp g 2 F_Deeds_eq)) (tVar 0) (tVar 3)) (tCons (tC (.bl true)) tNil)))))) (tRet (tC (.bl false))) tNext)) (tRet (tCall (PSp g 2 (F_law_same 8)) [] E (tCons (tMeth (g.c "Deeds") "names" (PSp g 1 F_Deeds_names) [] E (tVar 0) tNil) (tCons (tCB (rSortedA g.K g.w) (tCons (tCB (rSetX g.K g.w) (tCons (tVar 1) tNil)) tNil)) tNil)))))
noncomputable def f_k15_else : FS := (fSeq (fFor (fiSeq (fLst (fCons (fCB pSortedS (fCons (fCB pSet (fCons (fVar 1) fNil)) fNil)) (fCons (fCB pTuple (fCons (fCB pSortedS (fCons (fCB pSet (fCons (fVar 1) fNil)) fNil)) fNil)) (fCons (fCB pList (fCons (fVar 1) fNil)) (fCons (fC .non) (fCons (fC (.bl true)) (fCons (fOp pIx (fVar 2) (fC (.int 0))) (fCons (fCB pLenT (fCons (fCB pSet (fCons (fVar 1) fNil)) fNil)) fNil))))))))) (fgName 3) lb1_k15_else) (fRet (fCall (F_law_same 8) [false, false] [] (fCons (fMeth F_Deeds_names [false] [] (isIns "Deeds" "names") (fVar 0) fNil) (fCons (fCB pSortedS (fCons (fCB pSet (fCons (fVar 1) fNil)) fNil)) fNil)))))
@[irreducible] noncomputable def F_k15_else : PF := fnOf [] 4 3 f_k15_else
theorem un_k15_else : F_k15_else = fnOf [] 4 3 f_k15_else := by rw [F_k15_else]
theorem fl_k15_else : ∀ as w, as.length = 3 → F_k15_else as = some w → w.1.length = 3 := by rw [un_k15_else]; exact fnOf_len
theorem sim_k15_else {g : Ga} {E : XK} (nb_Deeds : neCB g.K "Deeds" = true) (nf_Deeds : NfC g "Deeds") : SimS g (wOf E) [] (t_k15_else g E) f_k15_else := (simS_seq (simS_for (simI_seq (simE_lst (simA_cons (simE_cb op_sortedA (simA_cons (simE_cb op_set (simA_cons (simE_var 1) simA_nil)) simA_nil)) (simA_cons (simE_cb op_tuple (simA_cons (simE_cb op_sortedA (simA_cons (simE_cb op_set (simA_cons (simE_var 1) simA_nil)) simA_nil)) simA_nil)) (simA_cons (simE_cb op_list (simA_cons (simE_var 1) simA_nil)) (simA_cons (simE_c fun G => .non) (simA_cons (simE_c fun G => .bl _) (simA_cons (simE_op op_ix (simE_var 2) (simE_c fun G => .int _)) (simA_cons (simE_cb op_lenT (simA_cons (simE_cb op_set (simA_cons (simE_var 1) simA_nil)) simA_nil)) simA_nil))))))))) simG_name (simS_if (simT_or (simT_not (simT_tru (simE_call (fun _ _ _ _ h => h) fl_k15_flag RpL.none (by rfl) (simA_cons (simE_eqO nf_Deeds fl_Deeds_eq (simE_var 0) (simE_var 3)) (simA_cons (simE_c fun G => .bl _) simA_nil))))) (simT_not (simT_tru (simE_call (fun _ _ _ _ h => h) fl_k15_flag RpL.none (by rfl) (simA_cons (simE_neOX nf_Deeds (simE_var 0) (simE_var 3)) (simA_cons (simE_c fun G => .bl _) simA_nil)))))) (simS_ret (simE_c fun G => .bl _)) simS_next)) (simS_ret (simE_call (fun _ _ _ _ h => h) (fl_law_same 8) RpL.none (by rfl) (simA_cons (simE_meth (fun _ _ _ _ h => h) fl_Deeds_names RpL.none (by rfl) rv_ins (simE_var 0) simA_nil) (simA_cons (simE_cb op_sortedA (simA_cons (simE_cb op_set (simA_cons (simE_var 1) simA_nil)) simA_nil)) simA_nil)))))
noncomputable def lb1_k15_law : FS := (fIf (fOr (fNot (fTru (fCall F_k15_flag [false, false] [] (fCons (fCall (inF "Deeds" F_Deeds_contains) [false, false] [] (fCons (fVar 8) (fCons (fVar 6) fNil))) (fCons (fOp pIn (fVar 8) (fVar 4)) fNil))))) (fNot (fTru (fCall F_k15_flag [false, false] [] (fCons (fCall (notInF "Deeds" F_Deeds_contains) [false, false] [] (fCons (fVar 8) (fCons (fVar 7) fNil))) (fCons (fOp pNotIn (fVar 8) (fVar 5)) fNil)))))) (fRet (fC (.bl false))) fNext)
noncomputable def lb2_k15_law : FS := (fSeq (fAsg (fCall F_o_odd_name [false] [] (fCons (fVar 9) fNil)) (fgName 10)) (fIf (fNot (fTru (fCall F_k15_flag [false, false] [] (fCons (fCall (inF "Deeds" F_Deeds_contains) [false, false] [] (fCons (fVar 10) (fCons (fVar 6) fNil))) (fCons (fC (.bl false)) fNil))))) (fRet (fC (.bl false))) fNext))
noncomputable def ce1_k15_law : FE := (fVar 8)
noncomputable def ct1_k15_law : FT := (fTest (fOp pNotIn (fVar 8) (fVar 5)))
def t_k15_law (g : Ga) (E : XK) : TS := (tSeq (tAsg (tCall (PSp g 1 F_law_pool) [] E (tCons (tCall (PSp g 2 F_law_cell) [] E (tCons (tVar 0) (tCons (tC (.int 0)) tNil))) tNil)) (gName 1)) (tSeq (tAsg (tCall (PSp g 2 F_law_draw) [] E (tCons (tVar 1) (tCons (tC (.int 6)) tNil))) (gName 2)) (tSeq (tAsg (tCall (PSp g 2 F_law_names) [] E (tCons (tVar 1) (tCons (tOp (rAddX g.K) (tC (.int 1)) (tCall (PSp g 2 F_law_draw) [] E (tCons (tVar 1) (tCons (tC (.int 8)) tNil)))) tNil))) (gName 3)) (tSeq (tAsg (tCall (PSp g 2 F_k15_pick) [] E (tCons (tCall (PSp g 1 F_law_pool) [] E (tCons (tCall (PSp g 2 F_law_cell) [] E (tCons (tVar 0) (tCons (tC (.int 1)) tNil))) tNil)) (tCons (tVar 3) tNil))) (gName 4)) (tSeq (tAsg (tCall (PSp g 2 F_k15_pick) [] E (tCons (tCall (PSp g 1 F_law_pool) [] E (tCons (tCall (PSp g 2 F_law_cell) [] E (tCons (tVar 0) (tCons (tC (.int 2)) tNil))) tNil)) (tCons (tVar 3) tNil))) (gName 5)) (tSeq (tIfS (tTest (tOp (rEqX g.K) (tVar 2) (tC (.int 0)))) (tAsg (tRevL g.K (tVar 4)) (gName 5)) tNext) (tSeq (tIfS (tTest (tOp (rEqX g.K) (tVar 2) (tC (.int 1)))) (tAsg (L2.tSl (rSlX g.K) (tVar 4) (tPart (tC (.int 1))) tNoPart) (gName 5)) tNext) (tSeq (tAsg (tMake (g.c "Deeds") (PSp g 2 F_Deeds_init) [] E (tCons (tVar 4) tNil)) (gName 6)) (tSeq (tAsg (tMake (g.c "Deeds") (PSp g 2 F_Deeds_init) [] E (tCons (tCB (rTupS g.K) (tCons (tVar 5) tNil)) tNil)) (gName 7)) (tSeq (tIfS (tNot (tTru2 g.K g.w (tCall (PSp g 2 (F_law_same 8)) [] E (tCons (tTup (tCons (tCB (rLenO (g.c "Deeds") (PSp g 1 F_Deeds_len)) (tCons (tVar 6) tNil)) (tCons (tCB (rLenO (g.c "Deeds") (PSp g 1 F_Deeds_len)) (tCons (tVar 7) tNil)) tNil))) (tCons (tTup (tCons (tCB (rLenT g.w) (tCons (tCB (rSetX g.K g.w) (tCons (tVar 4) tNil)) tNil)) (tCons (tCB (rLenT g.w) (tCons (tCB (rSetX g.K g.w) (tCons (tVar 5) tNil)) tNil)) tNil))) tNil))))) (tRet (tC (.bl false))) tNext) (tSeq (tIfS (tOr (tNot (tTru2 g.K g.w (tCall (PSp g 2 F_k15_flag) [] E (tCons (tCB (rBoolO (g.c "Deeds") (PSp g 1 F_Deeds_bool)) (tCons (tVar 6) tNil)) (tCons (tOp rGt (tCB (rLen2 g.K g.w) (tCons (tVar 4) tNil)) (tC (.int 0))) tNil))))) (tNot (tTru2 g.K g.w (tCall (PSp g 2 F_k15_flag) [] E (tCons (tCB (rBoolO (g.c "Deeds") (PSp g 1 F_Deeds_bool)) (tCons (tMake (g.c "Deeds") (PSp g 2 F_Deeds_init) [] E (tCons (tTup tNil) tNil)) tNil)) (tCons (tC (.bl false)) tNil)))))) (tRet (tC (.bl false))) tNext) (tSeq (tFor (iSeq2 g.K g.w (tOp (rAddX g.K) (tVar 3) (tLst (tCons (tOp (rAddX g.K) (tOp (rIx2 g.K g.w) (tVar 3) (tC (.int 0))) (tC (.str "z"))) (tCons (L2.tSl (rSlX g.K) (tOp (rIx2 g.K g.w) (tVar 3) (tC (.int 0))) (tPart (tC (.int 1))) tNoPart) (tCons (tC (.str "abcabcabcabcabc")) tNil)))))) (gName 8) (tIfS (tOr (tNot (tTru2 g.K g.w (tCall (PSp g 2 F_k15_flag) [] E (tCons (tOp (rInO (g.c "Deeds") (PSp g 2 F_Deeds_contains)) (tVar 8) (tVar 6)) (tCons (tOp (rInX g.K g.w) (tVar 8) (tVar 4)) tNil))))) (tNot (tTru2 g.K g.w (tCall (PSp g 2 F_k15_flag) [] E (tCons (tOp (rNotInO (g.c "Deeds") (PSp g 2 F_Deeds_contains)) (tVar 8) (tVar 7)) (tCons (tOp (rNotInX g.K g.w) (tVar 8) (tVar 5)) tNil)))))) (tRet (tC (.bl false))) tNext)) (tSeq (tFor (iRng1 (tCons (tC (.int 16)) tNil)) (gName 9) (tSeq (tAsg (tCall (PSp g 1 F_o_odd_name) [] E (tCons (tVar 9) tNil)) (gName 10)) (tIfS (tNot (tTru2 g.K g.w (tCall (PSp g 2 F_k15_flag) [] E (tCons (tOp (rInO (g.c "Deeds") (PSp g 2 F_Deeds_contains)) (tVar 10) (tVar 6)) (tCons (tC (.bl false)) tNil))))) (tRet (tC (.bl false))) tNext))) (tSeq (tIfS (tOr (tNot (tTru2 g.K g.w (tCall (PSp g 2 F_k15_flag) [] E (tCons (tOp (rInO (g.c "Deeds") (PSp g 2 F_Deeds_contains)) (tCall (PSp g 1 F_k15_deep) [] E (tCons (tOp (rIx2 g.K g.w) (tVar 3) (tC (.int 0))) tNil)) (tVar 6)) (tCons (tC (.bl false)) tNil))))) (tNot (tTru2 g.K g.w (tCall (PSp g 2 F_k15_flag) [] E (tCons (tOp (rEqO g.K (g.c "Deeds") (PSp g 2 F_Deeds_eq)) (tVar 6) (tCall (PSp g 1 F_k15_deep) [] E (tCons (tC (.int 0)) tNil))) (tCons (tC (.bl false)) tNil)))))) (tRet (tC (.bl false))) tNext) (tSeq (tAsg (tOp (rEqX g.K) (tCB (rLen2 g.K g.w) (tCons (tLc (iSeq2 g.K g.w (tVar 4)) (gName 8) (tTest (tOp (rNotInX g.K g.w) (tVar 8) (tVar 5))) (tVar 8) [8]) tNil)) (tC (.int 0))) (gName 11)) (tSeq (tIfS (tOr (tNot (tTru2 g.K g.w (tCall (PSp g 2 F_k15_flag) [] E (tCons (tMeth (g.c "Deeds") "within" (PSp g 2 F_Deeds_within) [] E (tVar 6) (tCons (tVar 7) tNil)) (tCons (tVar 11) tNil))))) (tNot (tTru2 g.K g.w (tCall (PSp g 2 F_k15_flag) [] E (tCons (tMeth (g.c "Deeds") "within" (PSp g 2 F_Deeds_within) [] E (tVar 6) (tCons (tCB (rListS2 g.K g.w) (tCons (tVar 5) tNil)) tNil)) (tCons (tVar 11) tNil)))))) (tRet (tC (.bl false))) tNext) (tSeq (tIfS (tOr (tNot (tTru2 g.K g.w (tCall (PSp g 2 F_k15_flag) [] E (tCons (tMeth (g.c "Deeds") "within" (PSp g 2 F_Deeds_within) [] E (tMake (g.c "Deeds") (PSp g 2 F_Deeds_init) [] E (tCons (tLst tNil) tNil)) (tCons (tVar 7) tNil)) (tCons (tC (.bl true)) tNil))))) (tNot (tTru2 g.K g.w (tCall (PSp g 2 F_k15_flag) [] E (tCons (tMeth (g.c "Deeds") "within" (PSp g 2 F_Deeds_within) [] E (tVar 6) (tCons (tCB (rTupS g.K) (tCons (tVar 4) tNil)) tNil)) (tCons (tC (.bl true)) tNil)))))) (tRet (tC (.bl false))) tNext) (tSeq (tAsg (tOp (rEqSt g.w) (tCB (rSetX g.K g.w) (tCons (tVar 4) tNil)) (tCB (rSetX g.K g.w) (tCons (tVar 5) tNil))) (gName 12)) (tSeq (tIfS (tOr (tNot (tTru2 g.K g.w (tCall (PSp g 2 F_k15_flag) [] E (tCons (tOp (rEqO g.K (g.c "Deeds") (PSp g 2 F_Deeds_eq)) (tVar 6) (tVar 7)) (tCons (tVar 12) tNil))))) (tNot (tTru2 g.K g.w (tCall (PSp g 2 F_k15_flag) [] E (tCons (tOp (rNeOX g.K (g.c "Deeds") (PSp g 2 F_Deeds_eq)) (tVar 6) (tVar 7)) (tCons (tNotV (tVar 12)) tNil)))))) (tRet (tC (.bl false))) tNext) (tRet (tCall (PSp g 3 F_k15_else) [] E (tCons (tVar 6) (tCons (tVar 4) (tCons (tVar 3) tNil))))))))))))))))))))))))
noncomputable def f_k15_law : FS := (fSeq (fAsg (fCall F_law_pool [false] [] (fCons (fCall F_law_cell [false, false] [] (fCons (fVar 0) (fCons (fC (.int 0)) fNil))) fNil)) (fgName 1)) (fSeq (fAsg (fCall F_law_draw [true, false] [] (fCons (fVar 1) (fCons (fC (.int 6)) fNil))) (fgName 2)) (fSeq (fAsg (fCall F_law_names [true, false] [] (fCons (fVar 1) (fCons (fOp pAdd (fC (.int 1)) (fCall F_law_draw [true, false] [] (fCons (fVar 1) (fCons (fC (.int 8)) fNil)))) fNil))) (fgName 3)) (fSeq (fAsg (fCall F_k15_pick [true, false] [] (fCons (fCall F_law_pool [false] [] (fCons (fCall F_law_cell [false, false] [] (fCons (fVar 0) (fCons (fC (.int 1)) fNil))) fNil)) (fCons (fVar 3) fNil))) (fgName 4)) (fSeq (fAsg (fCall F_k15_pick [true, false] [] (fCons (fCall F_law_pool [false] [] (fCons (fCall F_law_cell [false, false] [] (fCons (fVar 0) (fCons (fC (.int 2)) fNil))) fNil)) (fCons (fVar 3) fNil))) (fgName 5)) (fSeq (fIf (fTest (fOp pEq (fVar 2) (fC (.int 0)))) (fAsg (fUn pRev (fVar 4)) (fgName 5)) fNext) (fSeq (fIf (fTest (fOp pEq (fVar 2) (fC (.int 1)))) (fAsg (fSl pSl (fVar 4) (some (fC (.int 1))) none) (fgName 5)) fNext) (fSeq (fAsg (fCall (mkF "Deeds" F_Deeds_init []) [false] [] (fCons (fVar 4) fNil)) (fgName 6)) (fSeq (fAsg (fCall (mkF "Deeds" F_Deeds_init []) [false] [] (fCons (fCB pTuple (fCons (fVar 5) fNil)) fNil)) (fgName 7)) (fSeq (fIf (fNot (fTru (fCall (F_law_same 8) [false, false] [] (fCons (fTup (fCons (fCall (lenF "Deeds" F_Deeds_len) [false] [] (fCons (fVar 6) fNil)) (fCons (fCall (lenF "Deeds" F_Deeds_len) [false] [] (fCons (fVar 7) fNil)) fNil))) (fCons (fTup (fCons (fCB pLenT (fCons (fCB pSet (fCons (fVar 4) fNil)) fNil)) (fCons (fCB pLenT (fCons (fCB pSet (fCons (fVar 5) fNil)) fNil)) fNil))) fNil))))) (fRet (fC (.bl false))) fNext) (fSeq (fIf (fOr (fNot (fTru (fCall F_k15_flag [false, false] [] (fCons (fCall (boolF "Deeds" F_Deeds_bool) [false] [] (fCons (fVar 6) fNil)) (fCons (fOp (pCmp bGt) (fCB pLen (fCons (fVar 4) fNil)) (fC (.int 0))) fNil))))) (fNot (fTru (fCall F_k15_flag [false, false] [] (fCons (fCall (boolF "Deeds" F_Deeds_bool) [false] [] (fCons (fCall (mkF "Deeds" F_Deeds_init []) [false] [] (fCons (fTup fNil) fNil)) fNil)) (fCons (fC (.bl false)) fNil)))))) (fRet (fC (.bl false))) fNext) (fSeq (fFor (fiSeq (fOp pAdd (fVar 3) (fLst (fCons (fOp pAdd (fOp pIx (fVar 3) (fC (.int 0))) (fC (.str "z"))) (fCons (fSl pSl (fOp pIx (fVar 3) (fC (.int 0))) (some (fC (.int 1))) none) (fCons (fC (.str "abcabcabcabcabc")) fNil)))))) (fgName 8) lb1_k15_law) (fSeq (fFor (fiRng1 (fCons (fC (.int 16)) fNil)) (fgName 9) lb2_k15_law) (fSeq (fIf (fOr (fNot (fTru (fCall F_k15_flag [false, false] [] (fCons (fCall (inF "Deeds" F_Deeds_contains) [false, false] [] (fCons (fCall F_k15_deep [false] [] (fCons (fOp pIx (fVar 3) (fC (.int 0))) fNil)) (fCons (fVar 6) fNil))) (fCons (fC (.bl false)) fNil))))) (fNot (fTru (fCall F_k15_flag [false, false] [] (fCons (fEqO "Deeds" F_Deeds_eq (fVar 6) (fCall F_k15_deep [false] [] (fCons (fC (.int 0)) fNil))) (fCons (fC (.bl false)) fNil)))))) (fRet (fC (.bl false))) fNext) (fSeq (fAsg (fOp pEq (fCB pLen (fCons (fLcO 4 13 (fgName 8) ct1_k15_law ce1_k15_law [8]) fNil)) (fC (.int 0))) (fgName 11)) (fSeq (fIf (fOr (fNot (fTru (fCall F_k15_flag [false, false] [] (fCons (fMeth F_Deeds_within [false, false] [] (isIns "Deeds" "within") (fVar 6) (fCons (fVar 7) fNil)) (fCons (fVar 11) fNil))))) (fNot (fTru (fCall F_k15_flag [false, false] [] (fCons (fMeth F_Deeds_within [false, false] [] (isIns "Deeds" "within") (fVar 6) (fCons (fCB pList (fCons (fVar 5) fNil)) fNil)) (fCons (fVar 11) fNil)))))) (fRet (fC (.bl false))) fNext) (fSeq (fIf (fOr (fNot (fTru (fCall F_k15_flag [false, false] [] (fCons (fMeth F_Deeds_within [false, false] [] (isIns "Deeds" "within") (fCall (mkF "Deeds" F_Deeds_init []) [false] [] (fCons (fLst fNil) fNil)) (fCons (fVar 7) fNil)) (fCons (fC (.bl true)) fNil))))) (fNot (fTru (fCall F_k15_flag [false, false] [] (fCons (fMeth F_Deeds_within [false, false] [] (isIns "Deeds" "within") (fVar 6) (fCons (fCB pTuple (fCons (fVar 4) fNil)) fNil)) (fCons (fC (.bl true)) fNil)))))) (fRet (fC (.bl false))) fNext) (fSeq (fAsg (fOp pEqSt (fCB pSet (fCons (fVar 4) fNil)) (fCB pSet (fCons (fVar 5) fNil))) (fgName 12)) (fSeq (fIf (fOr (fNot (fTru (fCall F_k15_flag [false, false] [] (fCons (fEqO "Deeds" F_Deeds_eq (fVar 6) (fVar 7)) (fCons (fVar 12) fNil))))) (fNot (fTru (fCall F_k15_flag [false, false] [] (fCons (fCall (neF "Deeds" F_Deeds_eq) [false, false] [] (fCons (fVar 6) (fCons (fVar 7) fNil))) (fCons (fNotV (fVar 12)) fNil)))))) (fRet (fC (.bl false))) fNext) (fRet (fCall F_k15_else [false, false, false] [] (fCons (fVar 6) (fCons (fVar 4) (fCons (fVar 3) fNil))))))))))))))))))))))))
@[irreducible] noncomputable def F_k15_law : PF := fnOf [] 13 1 f_k15_law
theorem un_k15_law : F_k15_law = fnOf [] 13 1 f_k15_law := by rw [F_k15_law]
theorem sim_k15_law {g : Ga} {E : XK} (cp_Deeds : ClsP g "Deeds") (nb_Deeds : neCB g.K "Deeds" = true) (nf_Deeds : NfC g "Deeds") : SimS g (wOf E) [] (t_k15_law g E) f_k15_law := (simS_seq (simS_asg (simE_call (fun _ _ _ _ h => h) fl_law_pool RpL.none (by rfl) (simA_cons (simE_call (fun _ _ _ _ h => h) fl_law_cell RpL.none (by rfl) (simA_cons (simE_var 0) (simA_cons (simE_c fun G => .int _) simA_nil))) simA_nil)) simG_name) (simS_seq (simS_asg (simE_call (fun _ _ _ _ h => h) fl_law_draw RpL.none (by rfl) (simA_cons (simE_var 1) (simA_cons (simE_c fun G => .int _) simA_nil))) simG_name) (simS_seq (simS_asg (simE_call (fun _ _ _ _ h => h) fl_law_names RpL.none (by rfl) (simA_cons (simE_var 1) (simA_cons (simE_op op_addX (simE_c fun G => .int _) (simE_call (fun _ _ _ _ h => h) fl_law_draw RpL.none (by rfl) (simA_cons (simE_var 1) (simA_cons (simE_c fun G => .int _) simA_nil)))) simA_nil))) simG_name) (simS_seq (simS_asg (simE_call (fun _ _ _ _ h => h) fl_k15_pick RpL.none (by rfl) (simA_cons (simE_call (fun _ _ _ _ h => h) fl_law_pool RpL.none (by rfl) (simA_cons (simE_call (fun _ _ _ _ h => h) fl_law_cell RpL.none (by rfl) (simA_cons (simE_var 0) (simA_cons (simE_c fun G => .int _) simA_nil))) simA_nil)) (simA_cons (simE_var 3) simA_nil))) simG_name) (simS_seq (simS_asg (simE_call (fun _ _ _ _ h => h) fl_k15_pick RpL.none (by rfl) (simA_cons (simE_call (fun _ _ _ _ h => h) fl_law_pool RpL.none (by rfl) (simA_cons (simE_call (fun _ _ _ _ h => h) fl_law_cell RpL.none (by rfl) (simA_cons (simE_var 0) (simA_cons (simE_c fun G => .int _) simA_nil))) simA_nil)) (simA_cons (simE_var 3) simA_nil))) simG_name) (simS_seq (simS_if (simT_test (simE_op op_eqX (simE_var 2) (simE_c fun G => .int _))) (simS_asg (simE_rev (simE_var 4)) simG_name) simS_next) (simS_seq (simS_if (simT_test (simE_op op_eqX (simE_var 2) (simE_c fun G => .int _))) (simS_asg (simE_sl op_sl (simE_var 4) (simO_some (simE_c fun G => .int _)) simO_none) simG_name) simS_next) (simS_seq (simS_asg (simE_mk (mk_new cp_Deeds RpL.none rfl fl_Deeds_init) (mkF_len rfl fl_Deeds_init) (by rfl) (simA_cons (simE_var 4) simA_nil)) simG_name) (simS_seq (simS_asg (simE_mk (mk_new cp_Deeds RpL.none rfl fl_Deeds_init) (mkF_len rfl fl_Deeds_init) (by rfl) (simA_cons (simE_cb op_tuple (simA_cons (simE_var 5) simA_nil)) simA_nil)) simG_name) (simS_seq (simS_if (simT_not (simT_tru (simE_call (fun _ _ _ _ h => h) (fl_law_same 8) RpL.none (by rfl) (simA_cons (simE_tup (simA_cons (simE_lenO (simE_var 6)) (simA_cons (simE_lenO (simE_var 7)) simA_nil))) (simA_cons (simE_tup (simA_cons (simE_cb op_lenT (simA_cons (simE_cb op_set (simA_cons (simE_var 4) simA_nil)) simA_nil)) (simA_cons (simE_cb op_lenT (simA_cons (simE_cb op_set (simA_cons (simE_var 5) simA_nil)) simA_nil)) simA_nil))) simA_nil))))) (simS_ret (simE_c fun G => .bl _)) simS_next) (simS_seq (simS_if (simT_or (simT_not (simT_tru (simE_call (fun _ _ _ _ h => h) fl_k15_flag RpL.none (by rfl) (simA_cons (simE_boolO (simE_var 6)) (simA_cons (simE_op (op_cmp cGt) (simE_cb op_len (simA_cons (simE_var 4) simA_nil)) (simE_c fun G => .int _)) simA_nil))))) (simT_not (simT_tru (simE_call (fun _ _ _ _ h => h) fl_k15_flag RpL.none (by rfl) (simA_cons (simE_boolO (simE_mk (mk_new cp_Deeds RpL.none rfl fl_Deeds_init) (mkF_len rfl fl_Deeds_init) (by rfl) (simA_cons (simE_tup simA_nil) simA_nil))) (simA_cons (simE_c fun G => .bl _) simA_nil)))))) (simS_ret (simE_c fun G => .bl _)) simS_next) (simS_seq (simS_for (simI_seq (simE_op op_addX (simE_var 3) (simE_lst (simA_cons (simE_op op_addX (simE_op op_ix (simE_var 3) (simE_c fun G => .int _)) (simE_c fun G => .str _)) (simA_cons (simE_sl op_sl (simE_op op_ix (simE_var 3) (simE_c fun G => .int _)) (simO_some (simE_c fun G => .int _)) simO_none) (simA_cons (simE_c fun G => .str _) simA_nil)))))) simG_name (simS_if (simT_or (simT_not (simT_tru (simE_call (fun _ _ _ _ h => h) fl_k15_flag RpL.none (by rfl) (simA_cons (simE_inO (simE_var 8) (simE_var 6)) (simA_cons (simE_op op_inX (simE_var 8) (simE_var 4)) simA_nil))))) (simT_not (simT_tru (simE_call (fun _ _ _ _ h => h) fl_k15_flag RpL.none (by rfl) (simA_cons (simE_notInO (simE_var 8) (simE_var 7)) (simA_cons (simE_op op_notInX (simE_var 8) (simE_var 5)) simA_nil)))))) (simS_ret (simE_c fun G => .bl _)) simS_next)) (simS_seq (simS_for (simI_rng1 (simA_cons (simE_c fun G => .int _) simA_nil)) simG_name (simS_seq (simS_asg (simE_call (fun _ _ _ _ h => h) fl_o_odd_name RpL.none (by rfl) (simA_cons (simE_var 9) simA_nil)) simG_name) (simS_if (simT_not (simT_tru (simE_call (fun _ _ _ _ h => h) fl_k15_flag RpL.none (by rfl) (simA_cons (simE_inO (simE_var 10) (simE_var 6)) (simA_cons (simE_c fun G => .bl _) simA_nil))))) (simS_ret (simE_c fun G => .bl _)) simS_next))) (simS_seq (simS_if (simT_or (simT_not (simT_tru (simE_call (fun _ _ _ _ h => h) fl_k15_flag RpL.none (by rfl) (simA_cons (simE_inO (simE_call (fun _ _ _ _ h => h) fl_k15_deep RpL.none (by rfl) (simA_cons (simE_op op_ix (simE_var 3) (simE_c fun G => .int _)) simA_nil)) (simE_var 6)) (simA_cons (simE_c fun G => .bl _) simA_nil))))) (simT_not (simT_tru (simE_call (fun _ _ _ _ h => h) fl_k15_flag RpL.none (by rfl) (simA_cons (simE_eqO nf_Deeds fl_Deeds_eq (simE_var 6) (simE_call (fun _ _ _ _ h => h) fl_k15_deep RpL.none (by rfl) (simA_cons (simE_c fun G => .int _) simA_nil))) (simA_cons (simE_c fun G => .bl _) simA_nil)))))) (simS_ret (simE_c fun G => .bl _)) simS_next) (simS_seq (simS_asg (simE_op op_eqX (simE_cb op_len (simA_cons (simE_lcO (M' := [0, 1, 2, 3, 4, 5, 6, 7, 9, 10, 11, 12]) (W' := (wOf E)) (by decide) (by decide) (by decide) simG_name (simT_test (simE_op op_notInX (simE_var 8) (simE_var 5))) (simE_var 8)) simA_nil)) (simE_c fun G => .int _)) simG_name) (simS_seq (simS_if (simT_or (simT_not (simT_tru (simE_call (fun _ _ _ _ h => h) fl_k15_flag RpL.none (by rfl) (simA_cons (simE_meth (fun _ _ _ _ h => h) fl_Deeds_within RpL.none (by rfl) rv_ins (simE_var 6) (simA_cons (simE_var 7) simA_nil)) (simA_cons (simE_var 11) simA_nil))))) (simT_not (simT_tru (simE_call (fun _ _ _ _ h => h) fl_k15_flag RpL.none (by rfl) (simA_cons (simE_meth (fun _ _ _ _ h => h) fl_Deeds_within RpL.none (by rfl) rv_ins (simE_var 6) (simA_cons (simE_cb op_list (simA_cons (simE_var 5) simA_nil)) simA_nil)) (simA_cons (simE_var 11) simA_nil)))))) (simS_ret (simE_c fun G => .bl _)) simS_next) (simS_seq (simS_if (simT_or (simT_not (simT_tru (simE_call (fun _ _ _ _ h => h) fl_k15_flag RpL.none (by rfl) (simA_cons (simE_meth (fun _ _ _ _ h => h) fl_Deeds_within RpL.none (by rfl) rv_ins (simE_mk (mk_new cp_Deeds RpL.none rfl fl_Deeds_init) (mkF_len rfl fl_Deeds_init) (by rfl) (simA_cons (simE_lst simA_nil) simA_nil)) (simA_cons (simE_var 7) simA_nil)) (simA_cons (simE_c fun G => .bl _) simA_nil))))) (simT_not (simT_tru (simE_call (fun _ _ _ _ h => h) fl_k15_flag RpL.none (by rfl) (simA_cons (simE_meth (fun _ _ _ _ h => h) fl_Deeds_within RpL.none (by rfl) rv_ins (simE_var 6) (simA_cons (simE_cb op_tuple (simA_cons (simE_var 4) simA_nil)) simA_nil)) (simA_cons (simE_c fun G => .bl _) simA_nil)))))) (simS_ret (simE_c fun G => .bl _)) simS_next) (simS_seq (simS_asg (simE_op op_eqSt (simE_cb op_set (simA_cons (simE_var 4) simA_nil)) (simE_cb op_set (simA_cons (simE_var 5) simA_nil))) simG_name) (simS_seq (simS_if (simT_or (simT_not (simT_tru (simE_call (fun _ _ _ _ h => h) fl_k15_flag RpL.none (by rfl) (simA_cons (simE_eqO nf_Deeds fl_Deeds_eq (simE_var 6) (simE_var 7)) (simA_cons (simE_var 12) simA_nil))))) (simT_not (simT_tru (simE_call (fun _ _ _ _ h => h) fl_k15_flag RpL.none (by rfl) (simA_cons (simE_neOX nf_Deeds (simE_var 6) (simE_var 7)) (simA_cons (simE_not (simE_var 12)) simA_nil)))))) (simS_ret (simE_c fun G => .bl _)) simS_next) (simS_ret (simE_call (fun _ _ _ _ h => h) fl_k15_else RpL.none (by rfl) (simA_cons (simE_var 6) (simA_cons (simE_var 4) (simA_cons (simE_var 3) simA_nil))))))))))))))))))))))))
end Sd.Pu
namespace Sd.Pu
open PySem PySem.Spec PyProof.Rows L2
end Sd.Pu
namespace Sd.Pu
open PySem PySem.Spec PyProof.Rows L2 Sd.Gr
abbrev Mst := List Int × List Bool
def markB (marks : List Bool) (w : Str) (seen : List Str) : List Bool := List.zipWith (fun m n => m || decide (w = n)) marks seen
/-- the moves without a wanted word, and the marked standings behind them -/
def calmS (rs : List Rw) (seen wanted : List Str) (p : Mst) : List (Move × Mst) := ((movesOf rs p.1).filter fun m => decide (m.1 ∉ wanted)).map fun m => (m, (behindOf rs p.1 m.2, markB p.2 m.1 seen))
def startM (rs : List Rw) (seen : List Str) : Mst := (rs.map (·.1), seen.map fun _ => false)
theorem mark_len {marks : List Bool} {w : Str} {seen : List Str} (h : marks.length = seen.length) : (markB marks w seen).length = seen.length := by unfold markB; rw [List.length_zipWith, h, Nat.min_self]
/-- what holds in the middle of the search: f the dict's values; the first i nodes are asked -/
structure Mg (s : Mst → List (Move × Mst)) (r : Mst) (W : List Mst) (f : Mst → PV) (i : Nat) : Prop where
  le : i ≤ W.length
  nd : W.Nodup
  hd : W[0]? = some r
  rch : ∀ a ∈ W, Rch (nx s) r a
  cl : ∀ (j : Nat) a, j < i → W[j]? = some a → f a = waysP ME (s a) ∧ ∀ p ∈ s a, p.2 ∈ W
theorem Mg.mem {s : Mst → List (Move × Mst)} {r : Mst} {W : List Mst} {f : Mst → PV} {i : Nat} (B : Mg s r W f i) : r ∈ W := List.mem_of_getElem? B.hd
theorem Mg.push {s : Mst → List (Move × Mst)} {r a b : Mst} {W : List Mst} {f : Mst → PV} {i : Nat} {m : Move} {x : PV} (B : Mg s r W f i) (ha : a ∈ W) (hm : (m, b) ∈ s a) (hb : b ∉ W) : Mg s r (W ++ [b]) (upF f b x) i := by
  refine ⟨by have := B.le; simp; omega, List.nodup_append.mpr ⟨B.nd, by simp, fun x hx y hy z => hb (by rw [List.mem_singleton.mp hy] at z; exact z ▸ hx)⟩, ?_, ?_, ?_⟩
  · have := B.hd
    rw [List.getElem?_append_left (by cases W with | nil => simp at this | cons _ _ => simp)]; exact this
  · intro c hc
    rcases List.mem_append.mp hc with z | z
    · exact B.rch c z
    · rw [List.mem_singleton.mp z]; exact (B.rch a ha).snoc (mem_nx.mpr ⟨m, hm⟩)
  · intro j c hj hc
    have := B.le
    rw [List.getElem?_append_left (by omega)] at hc
    have hcb : c ≠ b := fun z => hb (z ▸ List.mem_of_getElem? hc)
    obtain ⟨h1, h2⟩ := B.cl j c hj hc
    exact ⟨by rw [upF_ne hcb]; exact h1, fun p hp => List.mem_append_left _ (h2 p hp)⟩
theorem Mg.next {s : Mst → List (Move × Mst)} {r a : Mst} {W : List Mst} {f : Mst → PV} {i : Nat} (B : Mg s r W f i) (ha : W[i]? = some a) (hf : f a = waysP ME (s a)) (h : ∀ p ∈ s a, p.2 ∈ W) : Mg s r W f (i + 1) := by
  refine ⟨(List.getElem?_eq_some_iff.mp ha).1, B.nd, B.hd, B.rch, fun j c hj hc => ?_⟩
  by_cases q : j = i
  · subst q
    rw [ha] at hc; cases hc
    exact ⟨hf, h⟩
  · exact B.cl j c (by omega) hc
/-- the met nodes: as a list, the first one first -/
structure Met (s : Mst → List (Move × Mst)) (r : Mst) (W : List Mst) : Prop where
  nd : W.Nodup
  hd : W[0]? = some r
  rch : ∀ a ∈ W, Rch (nx s) r a
  cl : ∀ a ∈ W, ∀ p ∈ s a, p.2 ∈ W
theorem Mg.all {s : Mst → List (Move × Mst)} {r : Mst} {W : List Mst} {f : Mst → PV} {i : Nat} (B : Mg s r W f i) (hi : W.length ≤ i) : Met s r W ∧ dictP ME W f = graphP ME W s :=
  ⟨⟨B.nd, B.hd, B.rch, fun a ha p hp => by
    obtain ⟨j, hj⟩ := List.getElem?_of_mem ha
    exact (B.cl j a (by have := (List.getElem?_eq_some_iff.mp hj).1; omega) hj).2 p hp⟩, dict_congr fun a ha => by
    obtain ⟨j, hj⟩ := List.getElem?_of_mem ha
    exact (B.cl j a (by have := (List.getElem?_eq_some_iff.mp hj).1; omega) hj).1⟩
theorem Met.mem {s : Mst → List (Move × Mst)} {r : Mst} {W : List Mst} (B : Met s r W) : r ∈ W := List.mem_of_getElem? B.hd
theorem Met.all {s : Mst → List (Move × Mst)} {r : Mst} {W : List Mst} (B : Met s r W) {a : Mst} : a ∈ W ↔ Rch (nx s) r a := ⟨B.rch a, fun h => h.closed (S := fun x => x ∈ W) (fun a ha b hb => by
  obtain ⟨m, hm⟩ := mem_nx.mp hb
  exact B.cl a ha _ hm) B.mem⟩
/-- marked standings of a question -/
def OkM (rs : List Rw) (seen : List Str) (p : Mst) : Prop := StandI rs p.1 ∧ p.2.length = seen.length
theorem okM_start (rs : List Rw) (seen : List Str) : OkM rs seen (startM rs seen) := ⟨stand_start rs, by unfold startM; rw [List.length_map]⟩
theorem okM_next {rs : List Rw} {seen wanted : List Str} {p q : Mst} {m : Move} (h : OkM rs seen p) (hm : (m, q) ∈ calmS rs seen wanted p) : OkM rs seen q := by
  obtain ⟨m', hm', e⟩ := List.mem_map.mp hm
  injection e with e1 e2
  subst e1 e2
  obtain ⟨h1, h2⟩ := List.mem_filter.mp hm'
  exact ⟨stand_behind h.1 (valid_of h1 h.1.len).2, mark_len h.2⟩
theorem okM_rch {rs : List Rw} {seen wanted : List Str} {p : Mst} (h : Rch (nx (calmS rs seen wanted)) (startM rs seen) p) : OkM rs seen p :=
  h.closed (S := OkM rs seen) (fun a ha b hb => by
    obtain ⟨m, hm⟩ := mem_nx.mp hb
    exact okM_next ha hm) (okM_start rs seen)
end Sd.Pu
namespace Sd.Pu
open PySem PySem.Spec PyProof.Rows L2 Sd.Gr
def openB (p : Mst) : Bool := p.2.all id
end Sd.Pu
namespace Sd.Pu
open PySem PySem.Spec PyProof.Rows L2 Sd.Gr
/-- the open met standings are closed -/
theorem mark_open {marks : List Bool} {w : Str} {seen : List Str} (h : marks.all id = true) : (markB marks w seen).all id = true := by
  unfold markB
  induction marks generalizing seen with
  | nil => rfl
  | cons b bs ih =>
    rw [List.all_cons, Bool.and_eq_true] at h
    cases seen with
    | nil => rfl
    | cons z zs =>
      rw [List.zipWith_cons_cons, List.all_cons, ih h.2, show b = true from h.1]; rfl
theorem calm_mem {rs : List Rw} {seen wanted : List Str} {p q : Mst} {m : Move} : (m, q) ∈ calmS rs seen wanted p ↔ m ∈ movesOf rs p.1 ∧ m.1 ∉ wanted ∧ q = (behindOf rs p.1 m.2, markB p.2 m.1 seen) := by
  unfold calmS
  constructor
  · intro h
    obtain ⟨m', h1, e⟩ := List.mem_map.mp h
    injection e with e1 e2
    subst e1
    obtain ⟨h2, h3⟩ := List.mem_filter.mp h1
    exact ⟨h2, of_decide_eq_true h3, e2.symm⟩
  · rintro ⟨h1, h2, rfl⟩
    exact List.mem_map.mpr ⟨m, List.mem_filter.mpr ⟨h1, decide_eq_true h2⟩, rfl⟩
/-- the open part of the met standings, and its strongly connected parts -/
structure OpenP (rs : List Rw) (seen wanted : List Str) (W : List Mst) (ps : List (List Mst)) : Prop where
  met : Met (calmS rs seen wanted) (startM rs seen) W
  few : W.length ≤ 1000
  pts : Parts (W.filter openB) (nx (calmS rs seen wanted)) ps
section
variable {rs : List Rw} {ds : List Int} {seen wanted : List Str} {W : List Mst} {ps : List (List Mst)}
theorem OpenP.closed (O : Met (calmS rs seen wanted) (startM rs seen) W) : ∀ a ∈ W.filter openB, ∀ e ∈ calmS rs seen wanted a, e.2 ∈ W.filter openB := by
  rintro a ha ⟨m, b⟩ he
  obtain ⟨aW, ao⟩ := List.mem_filter.mp ha
  refine List.mem_filter.mpr ⟨O.cl a aW _ he, ?_⟩
  obtain ⟨_, _, rfl⟩ := calm_mem.mp he
  exact mark_open ao
theorem OpenP.part (O : OpenP rs seen wanted W ps) {p : List Mst} (hp : p ∈ ps) : p.Nodup ∧ p ≠ [] ∧ (∀ a ∈ p, a ∈ W.filter openB) ∧ p.length ≤ 1000 := by
  have nd := O.pts.nd
  have h1 : p.Nodup := by
    have := (List.pairwise_flatten.mp nd).1
    exact this p hp
  have h2 : ∀ a ∈ p, a ∈ W.filter openB := fun a ha => (O.pts.mem a).mp (List.mem_flatten.mpr ⟨p, hp, ha⟩)
  exact ⟨h1, O.pts.ne p hp, h2, Nat.le_trans (h1.length_le_of_subset h2) (Nat.le_trans (List.length_filter_le _ _) O.few)⟩
theorem OpenP.ok (O : OpenP rs seen wanted W ps) {p : List Mst} (hp : p ∈ ps) : ∀ a ∈ p, OkM rs seen a := fun a ha => okM_rch (O.met.rch a (List.mem_filter.mp ((O.part hp).2.2.1 a ha)).1)
theorem stay_sub {α : Type} [DecidableEq α] {s : α → List (Move × α)} {p : List α} {a : α} {e : Move × α} : e ∈ stay s p a ↔ e ∈ s a ∧ e.2 ∈ p := by
  unfold stay
  rw [List.mem_filter]
  exact ⟨fun h => ⟨h.1, of_decide_eq_true h.2⟩, fun h => ⟨h.1, decide_eq_true h.2⟩⟩
theorem OpenP.str (O : OpenP rs seen wanted W ps) {p : List Mst} (hp : p ∈ ps) : ∀ a ∈ p, ∀ b ∈ p, Rch (nx (stay (calmS rs seen wanted) p)) a b := fun a ha b hb => by
  have h := O.pts.whole (fun a ha b hb => by
    obtain ⟨m, hm⟩ := mem_nx.mp hb
    exact OpenP.closed O.met a ha _ hm) hp ha hb
  induction h with
  | refl => exact .refl _
  | @step x y z q h1 h2 ih =>
    have yp : y ∈ p := by
      cases h2 with
      | refl q => exact q
      | step q _ _ => exact q
    obtain ⟨m, hm⟩ := mem_nx.mp h1
    exact .step (mem_nx.mpr ⟨m, stay_sub.mpr ⟨hm, yp⟩⟩) (ih yp hb)
theorem OpenP.way (O : OpenP rs seen wanted W ps) {p : List Mst} (hp : p ∈ ps) {f : Mst → PV} :
    ∃ stem a, F_shortest_way [.fz (.map (graphP ME W (calmS rs seen wanted))), .fz (ME.nd (startM rs seen)), .fz (.map (dictP ME p f))] = some ([.no, .no, .no], .ok (.fz (.tup [.lst (stem.map moveP), ME.nd a]))) ∧ a ∈ p ∧ Way (calmS rs seen wanted) (startM rs seen) stem a ∧ stem.length + 1 ≤ W.length := by
  obtain ⟨h1, h2, h3, h4⟩ := O.part hp
  obtain ⟨g, hg⟩ := List.exists_mem_of_ne_nil p h2
  exact sw_eq (E := ME) O.met.cl (by have := O.few; omega) O.met.mem hg (O.met.rch g (List.mem_filter.mp (h3 g hg)).1)
end
end Sd.Pu
namespace Sd.Pu
open PySem PySem.Spec PyProof.Rows L2 Sd.Gr
end Sd.Pu
namespace Sd.Pu
open PySem PySem.Spec PyProof.Rows L2
end Sd.Pu
namespace Sd.Pu
open PySem PySem.Spec PyProof.Rows L2
end Sd.Pu
namespace Sd.Pu
open PySem PySem.Spec PyProof.Rows L2
end Sd.Pu
namespace Sd.Pu
open PySem PySem.Spec PyProof.Rows L2
/-- what a plan tells -/
structure Plan (zs : List Str) (mh ms mw : Nat) (rs : List Rw) (ks : List Int) : Prop where
  dr : DrawnRows zs mh mw 8 rs ks
  rc : ∀ r ∈ rs, (reachL r.2 r.1).length ≤ ms
  z0 : zs ≠ []
  nd : zs.Nodup
end Sd.Pu
namespace Sd.Pu
open PySem PySem.Spec PyProof.Rows L2
/-- the words of some steps, each once, as they come -/
structure Once (L : List Step) (ws : List Str) : Prop where
  nd : ws.Nodup
  mem : ∀ z, z ∈ ws ↔ z ∈ L.map (·.2.1)
theorem Once.new {L : List Step} {ws : List Str} (h : Once L ws) {t : Step} (m : t.2.1 ∉ ws) : Once (L ++ [t]) (ws ++ [t.2.1]) := ⟨List.nodup_append.mpr ⟨h.nd, by simp, fun a ha b hb e => m (by rw [List.mem_singleton.mp hb] at e; exact e ▸ ha)⟩, fun z => by
  rw [List.mem_append, h.mem, List.map_append, List.mem_append] <;> rfl⟩
theorem Once.len {L : List Step} {ws : List Str} (h : Once L ws) : ws.length ≤ L.length := by
  have := h.nd.length_le_of_subset (l₂ := L.map (·.2.1)) fun z hz => (h.mem z).mp hz
  rw [List.length_map] at this
  exact this
end Sd.Pu
namespace Sd.Pu
open PySem PySem.Spec PyProof.Rows L2 Sd.Gr
abbrev Pst := List Int × List Str
def withS (d : List Str) (w : Str) : List Str := if w ∈ d then d else uniq (d ++ [w])
theorem with_asc {d : List Str} {w : Str} (h : Asc d) : Asc (withS d w) := by
  unfold withS
  split
  · exact h
  · exact asc_uniq _
theorem mem_with {d : List Str} {w z : Str} : z ∈ withS d w ↔ z ∈ d ∨ z = w := by
  unfold withS
  split
  · rename_i h
    exact ⟨.inl, fun q => q.elim id fun e => e ▸ h⟩
  · rw [mem_uniq, List.mem_append, List.mem_singleton]
def pairS (rs : List Rw) (p : Pst) : List (Move × Pst) := (movesOf rs p.1).map fun m => (m, (behindOf rs p.1 m.2, withS p.2 m.1))
def startP (rs : List Rw) : Pst := (rs.map (·.1), [])
structure OkD (rs : List Rw) (p : Pst) : Prop where
  st : StandI rs p.1
  as : Asc p.2
  wd : ∀ z ∈ p.2, z ∈ sysWords rs
theorem okD_start (rs : List Rw) : OkD rs (startP rs) := ⟨stand_start rs, .nil, fun z h => by cases h⟩
theorem pair_mem {rs : List Rw} {p q : Pst} {m : Move} : (m, q) ∈ pairS rs p ↔ m ∈ movesOf rs p.1 ∧ q = (behindOf rs p.1 m.2, withS p.2 m.1) := by
  unfold pairS
  rw [List.mem_map]
  constructor
  · rintro ⟨m', h, e⟩
    cases e
    exact ⟨h, rfl⟩
  · rintro ⟨h, e⟩
    exact ⟨m, h, by rw [e]⟩
end Sd.Pu
namespace Sd.Pu
open PySem PySem.Spec PyProof.Rows L2 Sd.Gr
/-- what holds in the middle of the search: f the dict's values; the first i nodes are asked -/
structure MgP (s : Pst → List (Move × Pst)) (r : Pst) (W : List Pst) (f : Pst → PV) (i : Nat) : Prop where
  le : i ≤ W.length
  nd : W.Nodup
  hd : W[0]? = some r
  rch : ∀ a ∈ W, Rch (nx s) r a
  cl : ∀ (j : Nat) a, j < i → W[j]? = some a → f a = waysP PE (s a) ∧ ∀ p ∈ s a, p.2 ∈ W
theorem MgP.mem {s : Pst → List (Move × Pst)} {r : Pst} {W : List Pst} {f : Pst → PV} {i : Nat} (B : MgP s r W f i) : r ∈ W := List.mem_of_getElem? B.hd
theorem MgP.push {s : Pst → List (Move × Pst)} {r a b : Pst} {W : List Pst} {f : Pst → PV} {i : Nat} {m : Move} {x : PV} (B : MgP s r W f i) (ha : a ∈ W) (hm : (m, b) ∈ s a) (hb : b ∉ W) : MgP s r (W ++ [b]) (upF f b x) i := by
  refine ⟨by have := B.le; simp; omega, List.nodup_append.mpr ⟨B.nd, by simp, fun x hx y hy z => hb (by rw [List.mem_singleton.mp hy] at z; exact z ▸ hx)⟩, ?_, ?_, ?_⟩
  · have := B.hd
    rw [List.getElem?_append_left (by cases W with | nil => simp at this | cons _ _ => simp)]; exact this
  · intro c hc
    rcases List.mem_append.mp hc with z | z
    · exact B.rch c z
    · rw [List.mem_singleton.mp z]; exact (B.rch a ha).snoc (mem_nx.mpr ⟨m, hm⟩)
  · intro j c hj hc
    have := B.le
    rw [List.getElem?_append_left (by omega)] at hc
    have hcb : c ≠ b := fun z => hb (z ▸ List.mem_of_getElem? hc)
    obtain ⟨h1, h2⟩ := B.cl j c hj hc
    exact ⟨by rw [upF_ne hcb]; exact h1, fun p hp => List.mem_append_left _ (h2 p hp)⟩
theorem MgP.next {s : Pst → List (Move × Pst)} {r a : Pst} {W : List Pst} {f : Pst → PV} {i : Nat} (B : MgP s r W f i) (ha : W[i]? = some a) (hf : f a = waysP PE (s a)) (h : ∀ p ∈ s a, p.2 ∈ W) : MgP s r W f (i + 1) := by
  refine ⟨(List.getElem?_eq_some_iff.mp ha).1, B.nd, B.hd, B.rch, fun j c hj hc => ?_⟩
  by_cases q : j = i
  · subst q
    rw [ha] at hc; cases hc
    exact ⟨hf, h⟩
  · exact B.cl j c (by omega) hc
/-- the met nodes: as a list, the first one first -/
structure MetP (s : Pst → List (Move × Pst)) (r : Pst) (W : List Pst) : Prop where
  nd : W.Nodup
  hd : W[0]? = some r
  rch : ∀ a ∈ W, Rch (nx s) r a
  cl : ∀ a ∈ W, ∀ p ∈ s a, p.2 ∈ W
theorem MgP.all {s : Pst → List (Move × Pst)} {r : Pst} {W : List Pst} {f : Pst → PV} {i : Nat} (B : MgP s r W f i) (hi : W.length ≤ i) : MetP s r W ∧ dictP PE W f = graphP PE W s :=
  ⟨⟨B.nd, B.hd, B.rch, fun a ha p hp => by
    obtain ⟨j, hj⟩ := List.getElem?_of_mem ha
    exact (B.cl j a (by have := (List.getElem?_eq_some_iff.mp hj).1; omega) hj).2 p hp⟩, dict_congr fun a ha => by
    obtain ⟨j, hj⟩ := List.getElem?_of_mem ha
    exact (B.cl j a (by have := (List.getElem?_eq_some_iff.mp hj).1; omega) hj).1⟩
theorem MetP.mem {s : Pst → List (Move × Pst)} {r : Pst} {W : List Pst} (B : MetP s r W) : r ∈ W := List.mem_of_getElem? B.hd
theorem MetP.all {s : Pst → List (Move × Pst)} {r : Pst} {W : List Pst} (B : MetP s r W) {a : Pst} : a ∈ W ↔ Rch (nx s) r a := ⟨B.rch a, fun h => h.closed (S := fun x => x ∈ W) (fun a ha b hb => by
  obtain ⟨m, hm⟩ := mem_nx.mp hb
  exact B.cl a ha _ hm) B.mem⟩
theorem move_word {rs : List Rw} {sts : List Int} {m : Move} (h : m ∈ movesOf rs sts) : m.1 ∈ sysWords rs := by
  unfold movesOf at h
  obtain ⟨w, hw, h⟩ := List.mem_flatMap.mp h
  unfold movesW at h
  obtain ⟨l, _, rfl⟩ := List.mem_map.mp h
  exact hw
theorem okD_next {rs : List Rw} {p q : Pst} {m : Move} (h : OkD rs p) (hm : (m, q) ∈ pairS rs p) : OkD rs q := by
  obtain ⟨h1, rfl⟩ := pair_mem.mp hm
  refine ⟨stand_behind h.st (valid_of h1 h.st.len).2, with_asc h.as, fun z hz => ?_⟩
  rcases mem_with.mp hz with hz | rfl
  · exact h.wd z hz
  · exact move_word h1
theorem okD_rch {rs : List Rw} {p : Pst} (h : Rch (nx (pairS rs)) (startP rs) p) : OkD rs p :=
  h.closed (S := OkD rs) (fun a ha b hb => by
    obtain ⟨m, hm⟩ := mem_nx.mp hb
    exact okD_next ha hm) (okD_start rs)
theorem OkD.few {rs : List Rw} {p : Pst} (h : OkD rs p) (w12 : (sysWords rs).length ≤ 12) : p.2.length ≤ 60 := by
  have := (asc_nodup h.as).length_le_of_subset (l₂ := sysWords rs) fun z hz => h.wd z hz
  omega
end Sd.Pu
namespace Sd.Pu
open PySem PySem.Spec PyProof.Rows L2 Sd.Gr
def quietS (s : Pst → List (Move × Pst)) (p : Pst) : List (Move × Pst) := (s p).filter fun e => decide (e.2.2 = p.2)
theorem quiet_sub {s : Pst → List (Move × Pst)} {a : Pst} {e : Move × Pst} : e ∈ quietS s a ↔ e ∈ s a ∧ e.2.2 = a.2 := by
  unfold quietS
  rw [List.mem_filter, decide_eq_true_iff]
/-- the met pairs and their parts -/
structure FamP (rs : List Rw) (W : List Pst) (ps : List (List Pst)) : Prop where
  met : MetP (pairS rs) (startP rs) W
  few : W.length ≤ 1000
  pts : Parts W (nx (quietS (pairS rs))) ps
section
variable {rs : List Rw} {ds : List Int} {W : List Pst} {ps : List (List Pst)}
theorem MetP.closed (O : MetP (pairS rs) (startP rs) W) : ∀ a ∈ W, ∀ e ∈ quietS (pairS rs) a, e.2 ∈ W := fun a ha e he => O.cl a ha e (quiet_sub.mp he).1
theorem FamP.part (O : FamP rs W ps) {p : List Pst} (hp : p ∈ ps) : p.Nodup ∧ p ≠ [] ∧ (∀ a ∈ p, a ∈ W) ∧ p.length ≤ 1000 := by
  have h1 : p.Nodup := (List.pairwise_flatten.mp O.pts.nd).1 p hp
  have h2 : ∀ a ∈ p, a ∈ W := fun a ha => (O.pts.mem a).mp (List.mem_flatten.mpr ⟨p, hp, ha⟩)
  exact ⟨h1, O.pts.ne p hp, h2, Nat.le_trans (h1.length_le_of_subset h2) O.few⟩
theorem FamP.ok (O : FamP rs W ps) {p : List Pst} (hp : p ∈ ps) : ∀ a ∈ p, OkD rs a := fun a ha => okD_rch (O.met.rch a ((O.part hp).2.2.1 a ha))
theorem FamP.closed (O : FamP rs W ps) : ∀ a ∈ W, ∀ b ∈ nx (quietS (pairS rs)) a, b ∈ W := fun a ha b hb => by
  obtain ⟨m, hm⟩ := mem_nx.mp hb
  exact O.met.closed a ha _ hm
theorem FamP.str (O : FamP rs W ps) {p : List Pst} (hp : p ∈ ps) : ∀ a ∈ p, ∀ b ∈ p, Rch (nx (stay (quietS (pairS rs)) p)) a b := fun a ha b hb => by
  have h := O.pts.whole O.closed hp ha hb
  induction h with
  | refl => exact .refl _
  | @step x y z q h1 h2 ih =>
    have yp : y ∈ p := by
      cases h2 with
      | refl q => exact q
      | step q _ _ => exact q
    obtain ⟨m, hm⟩ := mem_nx.mp h1
    exact .step (mem_nx.mpr ⟨m, stay_sub.mpr ⟨hm, yp⟩⟩) (ih yp hb)
def idleQ (rs : List Rw) (ds : List Int) (p : List Pst) : Option Int := idleOf rs ds (fun a : Pst => a.1) (stay (quietS (pairS rs)) p) p
/-- the nodes of the parts without an idle hand, in their order -/
def fairN (rs : List Rw) (ds : List Int) (ps : List (List Pst)) : List Pst := (ps.filter fun p => (idleQ rs ds p).isNone).flatten
theorem fairN_sub (O : FamP rs W ps) {a : Pst} (h : a ∈ fairN rs ds ps) : a ∈ W := by
  obtain ⟨p, hp, ha⟩ := List.mem_flatten.mp h
  exact (O.part (List.mem_filter.mp hp).1).2.2.1 a ha
end
end Sd.Pu
namespace Sd.Pu
open PySem PySem.Spec PyProof.Rows L2 Sd.Gr
/-- what the laws ask of the rows -/
structure LR (rs : List Rw) : Prop where
  S : Sm rs
  l24 : ∀ r ∈ rs, r.2.length ≤ 24
  hn : ∀ r ∈ rs, ∀ s ∈ r.2, IsName s.2.1
theorem LR.name {rs : List Rw} (R : LR rs) {w : Str} (hw : w ∈ sysWords rs) : IsName w := by
  obtain ⟨r, hr, hz⟩ := List.mem_flatMap.mp (mem_uniq.mp hw)
  obtain ⟨s, hs, rfl⟩ := List.mem_map.mp (mem_uniq.mp hz)
  exact R.hn r hr s hs
/-- the law's own ground: standings and their ways -/
def Gb (rs : List Rw) (d : PV) : Prop := ∃ N : List (List Int), N.Nodup ∧ (∀ p ∈ N, StandI rs p) ∧ d = .map (dictP SE N fun p => .lst ((movesOf rs p).map (wayP rs p)))
theorem Gb.nil (rs : List Rw) : Gb rs (.map []) := ⟨[], by simp, by simp, by rw [dict_nil]⟩
end Sd.Pu
namespace Sd.Pu
open PySem PySem.Spec PyProof.Rows L2 Sd.Gr
end Sd.Pu
namespace Sd.Pu
open PySem PySem.Spec PyProof.Rows L2 Sd.Gr
/-- in the middle of the search: K are asked, wt wait -/
structure Bm (s : Mst → List (Move × Mst)) (r : Mst) (W K wt : List Mst) : Prop where
  nd : K.Nodup
  kw : ∀ a ∈ K, a ∈ W
  ww : ∀ a ∈ wt, a ∈ W
  cl : ∀ a ∈ K, ∀ p ∈ s a, p.2 ∈ K ∨ p.2 ∈ wt
  st : r ∈ K ∨ r ∈ wt
theorem Bm.new {s : Mst → List (Move × Mst)} {r a : Mst} {W K wt : List Mst} (B : Bm s r W K (wt ++ [a])) (hW : ∀ a ∈ W, ∀ p ∈ s a, p.2 ∈ W) (h : a ∉ K) : Bm s r W (K ++ [a]) (wt ++ (s a).map (·.2)) := by
  have aW : a ∈ W := B.ww a (by simp)
  refine ⟨List.nodup_append.mpr ⟨B.nd, by simp, fun x hx y hy z => h (by rw [List.mem_singleton.mp hy] at z; exact z ▸ hx)⟩, ?_, ?_, ?_, ?_⟩
  · intro b hb
    rcases List.mem_append.mp hb with z | z
    · exact B.kw b z
    · rw [List.mem_singleton.mp z]; exact aW
  · intro b hb
    rcases List.mem_append.mp hb with z | z
    · exact B.ww b (List.mem_append_left _ z)
    · obtain ⟨p, hp, rfl⟩ := List.mem_map.mp z
      exact hW a aW p hp
  · intro b hb p hp
    rcases List.mem_append.mp hb with z | z
    · rcases B.cl b z p hp with z | z
      · exact .inl (List.mem_append_left _ z)
      · rcases List.mem_append.mp z with z | z
        · exact .inr (List.mem_append_left _ z)
        · exact .inl (List.mem_append_right _ z)
    · rw [List.mem_singleton.mp z] at hp
      exact .inr (List.mem_append_right _ (List.mem_map.mpr ⟨p, hp, rfl⟩))
  · rcases B.st with z | z
    · exact .inl (List.mem_append_left _ z)
    · rcases List.mem_append.mp z with z | z
      · exact .inr (List.mem_append_left _ z)
      · exact .inl (List.mem_append_right _ z)
end Sd.Pu
namespace Sd.Pu
open PySem PySem.Spec PyProof.Rows L2 Sd.Gr
theorem OkP.take {rs : List Rw} {p : List Int} {ms : List Move} (i : Nat) (h : OkP rs p ms) : OkP rs p (ms.take i) := by
  have e : ms = ms.take i ++ ms.drop i := (List.take_append_drop _ _).symm
  rw [e, OkP_app] at h
  exact h.1
end Sd.Pu
namespace Sd.Pu
open PySem PySem.Spec PyProof.Rows L2 Sd.Gr
end Sd.Pu
namespace Sd.Pu
open PySem PySem.Spec PyProof.Rows L2 Sd.Gr
end Sd.Pu
namespace Sd.Pu
open PySem PySem.Spec PyProof.Rows L2 Sd.Gr
theorem moves_3 {rs : List Rw} {sts : List Int} (sm : SmallR rs) (n3 : rs.length ≤ 3) : (movesOf rs sts).length ≤ 768 := by
  have h2 := flat_le (f := movesW rs sts) (k := 64) (sysWords rs) fun w _ => by
    unfold movesW
    rw [List.length_map]
    have l : (numsAt rs sts w).length ≤ rs.length := by unfold numsAt; rw [List.length_zipWith]; omega
    have := linesOf_len (nums := numsAt rs sts w) _ rfl fun n hn => nums_4 sm.nu n hn
    refine Nat.le_trans this ?_
    generalize (numsAt rs sts w).length = k at *
    have : k = 0 ∨ k = 1 ∨ k = 2 ∨ k = 3 := by omega
    rcases this with e | e | e | e <;> subst e <;> decide
  have w12 := sm.w12
  unfold movesOf
  omega
section
variable {zs : List Str} {mh ms mw : Nat} {rs : List Rw} {ks : List Int}
theorem Plan.sm (P : Plan zs mh ms mw rs ks) (h3 : mh ≤ 3) (w8 : mw ≤ 8) (c : cartN rs ≤ 100000) : Sm rs := by
  have S := P.dr.small (by omega) (by omega)
  have n2 := P.dr.n2
  exact ⟨S, c, fun p => Nat.le_trans (moves_3 S (by omega)) (by omega)⟩
end
end Sd.Pu
namespace Sd.Pu
open PySem PySem.Spec PyProof.Rows L2 Sd.Gr
end Sd.Pu
namespace Sd.Pu
open PySem PySem.Spec PyProof.Rows L2 Sd.Gr
end Sd.Pu
namespace Sd.Pu
open PySem PySem.Spec PyProof.Rows L2 Sd.Gr
/-- tuples of texts as keys -/
def TE : Enc (List Str) where
  nd d := .tup (strsP d)
  ky d := .tup (d.map kStr)
  hk d := keyP_of (nk_tup nk_str d) (by rw [dp_tup d_str]; omega)
  inj a b h := by
    injection h with h
    exact map_inj' i_str a b h
/-- a list of rows that is a family -/
structure FamL (rs : List Rw) (ds : List Int) (ps : List (List Pst)) (F : List (List Str)) : Prop where
  nd : F.Nodup
  mem : ∀ d, d ∈ F ↔ ∃ a ∈ fairN rs ds ps, a.2 = d
  so : sortL F = F
end Sd.Pu
namespace Sd.Pu
open PySem PySem.Spec PyProof.Rows L2 Sd.Gr
/-- in the middle of the search: K are asked, wt wait -/
structure BmP (s : Pst → List (Move × Pst)) (r : Pst) (W K wt : List Pst) : Prop where
  nd : K.Nodup
  kw : ∀ a ∈ K, a ∈ W
  ww : ∀ a ∈ wt, a ∈ W
  cl : ∀ a ∈ K, ∀ p ∈ s a, p.2 ∈ K ∨ p.2 ∈ wt
  st : r ∈ K ∨ r ∈ wt
theorem BmP.new {s : Pst → List (Move × Pst)} {r a : Pst} {W K wt : List Pst} (B : BmP s r W K (wt ++ [a])) (hW : ∀ a ∈ W, ∀ p ∈ s a, p.2 ∈ W) (h : a ∉ K) : BmP s r W (K ++ [a]) (wt ++ (s a).map (·.2)) := by
  have aW : a ∈ W := B.ww a (by simp)
  refine ⟨List.nodup_append.mpr ⟨B.nd, by simp, fun x hx y hy z => h (by rw [List.mem_singleton.mp hy] at z; exact z ▸ hx)⟩, ?_, ?_, ?_, ?_⟩
  · intro b hb
    rcases List.mem_append.mp hb with z | z
    · exact B.kw b z
    · rw [List.mem_singleton.mp z]; exact aW
  · intro b hb
    rcases List.mem_append.mp hb with z | z
    · exact B.ww b (List.mem_append_left _ z)
    · obtain ⟨p, hp, rfl⟩ := List.mem_map.mp z
      exact hW a aW p hp
  · intro b hb p hp
    rcases List.mem_append.mp hb with z | z
    · rcases B.cl b z p hp with z | z
      · exact .inl (List.mem_append_left _ z)
      · rcases List.mem_append.mp z with z | z
        · exact .inr (List.mem_append_left _ z)
        · exact .inl (List.mem_append_right _ z)
    · rw [List.mem_singleton.mp z] at hp
      exact .inr (List.mem_append_right _ (List.mem_map.mpr ⟨p, hp, rfl⟩))
  · rcases B.st with z | z
    · exact .inl (List.mem_append_left _ z)
    · rcases List.mem_append.mp z with z | z
      · exact .inr (List.mem_append_left _ z)
      · exact .inl (List.mem_append_right _ z)
end Sd.Pu
namespace Sd.Pu
open PySem PySem.Spec PyProof.Rows L2 Sd.Gr
end Sd.Pu
namespace Sd.Pu
open PySem PySem.Spec PyProof.Rows L2 Sd.Gr
section
variable {α : Type} [DecidableEq α] {E : Enc α} {N : List α} {s : α → List (Move × α)}
/-- in the middle: K known, of these wt wait; b: the one that is asked -/
structure Br (s : α → List (Move × α)) (N : List α) (r : α) (K wt : List α) (P : α → Prop) : Prop where
  nd : K.Nodup
  kN : ∀ b ∈ K, b ∈ N
  rc : ∀ b ∈ K, Rch (nx s) r b
  st : r ∈ K
  wk : ∀ b ∈ wt, b ∈ K
  cl : ∀ b ∈ K, b ∉ wt → ¬ P b → ∀ p ∈ s b, p.2 ∈ K
theorem Br.push {r a b : α} {m : Move} {K wt : List α} {P : α → Prop} (B : Br s N r K wt P) (aK : a ∈ K) (hm : (m, b) ∈ s a) (bN : b ∈ N) (hb : b ∉ K) : Br s N r (K ++ [b]) (wt ++ [b]) P := by
  refine ⟨List.nodup_append.mpr ⟨B.nd, by simp, fun x hx y hy z => hb (by rw [List.mem_singleton.mp hy] at z; exact z ▸ hx)⟩, ?_, ?_, List.mem_append_left _ B.st, ?_, ?_⟩
  · intro c hc
    rcases List.mem_append.mp hc with z | z
    · exact B.kN c z
    · rw [List.mem_singleton.mp z]; exact bN
  · intro c hc
    rcases List.mem_append.mp hc with z | z
    · exact B.rc c z
    · rw [List.mem_singleton.mp z]; exact (B.rc a aK).snoc (mem_nx.mpr ⟨m, hm⟩)
  · intro c hc
    rcases List.mem_append.mp hc with z | z
    · exact List.mem_append_left _ (B.wk c z)
    · exact List.mem_append_right _ z
  · intro c hc hw hP p hp
    rcases List.mem_append.mp hc with z | z
    · exact List.mem_append_left _ (B.cl c z (fun q => hw (List.mem_append_left _ q)) hP p hp)
    · exact absurd (List.mem_append_right _ z) hw
end
end Sd.Pu
namespace Sd.Pu
open PySem PySem.Spec PyProof.Rows L2 Sd.Gr
end Sd.Pu
namespace Sd.Pu
open PySem PySem.Spec PyProof.Rows L2 Sd.Gr
end Sd.Pu
namespace Sd.Pu
open PySem PySem.Spec PyProof.Rows L2 Sd.Gr
section
variable {rs : List Rw} {ds : List Int} {W : List Pst} {ps : List (List Pst)} {F : List (List Str)}
theorem FamL.sub (O : FamP rs W ps) (FL : FamL rs ds ps F) {d : List Str} (hd : d ∈ F) : Asc d ∧ ∀ z ∈ d, z ∈ sysWords rs := by
  obtain ⟨a, ha, rfl⟩ := (FL.mem d).mp hd
  have := okD_rch (O.met.rch a (fairN_sub O ha))
  exact ⟨this.as, this.wd⟩
theorem FamL.few (O : FamP rs W ps) (FL : FamL rs ds ps F) : F.length ≤ 1000 := by
  have := FL.nd.length_le_of_subset (l₂ := W.map (·.2)) fun d hd => by
    obtain ⟨a, ha, rfl⟩ := (FL.mem d).mp hd
    exact List.mem_map_of_mem (fairN_sub O ha)
  rw [List.length_map] at this
  exact Nat.le_trans this O.few
end
end Sd.Pu
namespace Sd.Pu
open PySem PySem.Spec PyProof.Rows L2 Sd.Gr
end Sd.Pu
namespace Sd.Pu
open PySem PySem.Spec PyProof.Rows L2 Sd.Gr
end Sd.Pu
namespace Sd.Pu
open PySem PySem.Spec PyProof.Rows L2 Sd.Gr
end Sd.Pu
namespace Sd.Pu
open PySem PySem.Spec PyProof.Rows L2 Sd.Gr
end Sd.Pu
namespace Sd.Pu
open PySem PySem.Spec PyProof.Rows L2 Sd.Gr
end Sd.Pu
namespace Sd.Pu
open PySem PySem.Spec PyProof.Rows L2 Sd.Gr
end Sd.Pu
namespace Sd.Pu
open PySem PySem.Spec PyProof.Rows L2 Sd.Gr
theorem Plan.words {zs : List Str} {mh ms mw : Nat} {rs : List Rw} {ks : List Int} (P : Plan zs mh ms mw rs ks) : (sysWords rs).length ≤ zs.length := by
  refine (asc_nodup (asc_uniq _)).length_le_of_subset fun z hz => ?_
  obtain ⟨r, hr, hz⟩ := List.mem_flatMap.mp (mem_uniq.mp hz)
  obtain ⟨s, hs, rfl⟩ := List.mem_map.mp (mem_uniq.mp hz)
  obtain ⟨ss, dr, _⟩ := (P.dr.ok r hr).ex
  exact dr.wd s hs
end Sd.Pu
namespace Sd.Pu
open PySem PySem.Spec PyProof.Rows L2 Sd.Gr
theorem Plan.words_in {zs : List Str} {mh ms mw : Nat} {rs : List Rw} {ks : List Int} (P : Plan zs mh ms mw rs ks) {z : Str} (hz : z ∈ sysWords rs) : z ∈ zs := by
  obtain ⟨r, hr, hz⟩ := List.mem_flatMap.mp (mem_uniq.mp hz)
  obtain ⟨s, hs, rfl⟩ := List.mem_map.mp (mem_uniq.mp hz)
  obtain ⟨ss, dr, _⟩ := (P.dr.ok r hr).ex
  exact dr.wd s hs
end Sd.Pu
namespace Sd.Pu
open PySem PySem.Spec PyProof.Rows L2 Sd.Gr
theorem dOk_lstr {ws : List Str} (h : ∀ z ∈ ws, IsName z) : dOk 20 (.lst (strsP ws)) = true := by rw [dOk]; exact dOk_map fun z hz => by simp [dOk, name_strOk (h z hz)]
theorem eq_strsL {a b : List Str} (ha : ∀ z ∈ a, IsName z) (hb : ∀ z ∈ b, IsName z) : pEq (.lst (strsP a)) (.lst (strsP b)) = some (.fz (.bl (decide (a = b)))) := by
  rw [pEq_of (dOk_lstr ha) (dOk_lstr hb), eqP, eqPs_map eq_str]
theorem words_deeds (ws : List Str) : F_words_of_row [.fz (deedsP ws)] = some ([.no], .ok (.ow (.lst (strsP ws)))) := by
  have h : F_Deeds_names [.fz (deedsP ws)] = some ([.no], .ok (.ow (.lst (strsP ws)))) := by
    unfold F_Deeds_names
    refine Runs.eq <| rFn R0_ A1_ <| rRet <| rCB <| rCons <| rUn <| rL rfl <| kUn rfl rfl <| kCons1 <| rL rfl <| kCons2 <| kCB rfl rfl <| kRet tV <| ?_
    rfl
  unfold F_words_of_row
  refine Runs.eq <| rFn R1_ A1_ <| rSeq <| rIf <| rTru <| rCB <| rCons <| rL rfl <| kCons1 <| rCons <| rL rfl <| kCons1 <| rL rfl <| kCons2 <| kCons2 <| kCB rfl rfl <| kTru rfl rfl <| kIfT rfl <| rRet <| rMeth <| rL rfl <| kMeth1 rfl <| rL rfl <| kMeth2 (p_ yV pN) h (bA rfl) <| kRet tV <| ?_
  rfl
end Sd.Pu
namespace Sd.Pu
open PySem PySem.Spec PyProof.Rows L2 Sd.Gr
theorem Plan.own {zs : List Str} {mh ms mw : Nat} {rs : List Rw} {ks : List Int} (P : Plan zs mh ms mw rs ks) : (uniq zs).filter (fun w => decide (w ∈ sysWords rs)) = sysWords rs := by
  refine asc_ext (List.Pairwise.filter _ (asc_uniq zs)) (asc_uniq _) fun z => ?_
  rw [List.mem_filter, decide_eq_true_iff]
  exact ⟨fun h => h.2, fun h => ⟨mem_uniq.mpr (P.words_in h), h⟩⟩
end Sd.Pu
namespace Sd.Pu
open PySem PySem.Spec PyProof.Rows L2 Sd.Gr
end Sd.Pu
namespace Sd.Pu
open PySem PySem.Spec PyProof.Rows L2 Sd.Gr
end Sd.Pu
namespace Sd.Pu
open PySem PySem.Spec PyProof.Rows L2 Sd.Gr
abbrev Tok := Int ⊕ List Nat
end Sd.Pu
namespace Sd.Pu
open PySem PySem.Spec PyProof.Rows L2
end Sd.Pu
namespace Sd.Pu
open PySem PySem.Spec PyProof.Rows L2
end Sd.Pu
namespace Sd.Pu
open PySem PySem.Spec PyProof.Rows L2 Sd.Gr
end Sd.Pu
namespace Sd.Pu
open PySem PySem.Spec PyProof.Rows L2 Sd.Gr
end Sd.Pu
namespace Sd.Pu
open PySem PySem.Spec PyProof.Rows L2 Sd.Gr
end Sd.Pu
namespace Sd.Pu
open PySem PySem.Spec PyProof.Rows L2 Sd.Gr
end Sd.Pu
namespace Sd.Pu
open PySem PySem.Spec PyProof.Rows L2 Sd.Gr
end Sd.Pu
namespace Sd.Pu
open PySem PySem.Spec PyProof.Rows L2 Sd.Gr
end Sd.Pu
namespace Sd.Pu
open PySem PySem.Spec PyProof.Rows L2 Sd.Gr
end Sd.Pu
namespace Sd.Pu
open PySem PySem.Spec PyProof.Rows L2 Sd.Gr
end Sd.Pu
namespace Sd.Pu
open PySem PySem.Spec PyProof.Rows L2 Sd.Gr
end Sd.Pu
namespace Sd.Pu
open PySem PySem.Spec PyProof.Rows L2 Sd.Gr
end Sd.Pu
namespace Sd.Pu
open PySem PySem.Spec PyProof.Rows L2 Sd.Gr
end Sd.Pu
namespace Sd.Pu
open PySem PySem.Spec PyProof.Rows L2 Sd.Gr
end Sd.Pu
namespace Sd.Pu
open PySem PySem.Spec PyProof.Rows L2 Sd.Gr
end Sd.Pu
namespace Sd.Pu
open PySem PySem.Spec PyProof.Rows L2 Sd.Gr
end Sd.Pu
namespace Sd.Pu
open PySem PySem.Spec PyProof.Rows L2 Sd.Gr
end Sd.Pu
namespace Sd.Pu
open PySem PySem.Spec PyProof.Rows L2 Sd.Gr
end Sd.Pu
namespace Sd.Pu
open PySem PySem.Spec PyProof.Rows L2 Sd.Gr
end Sd.Pu
namespace Sd.Pu
open PySem PySem.Spec PyProof.Rows L2 Sd.Gr
end Sd.Pu
namespace Sd.Pu
open PySem PySem.Spec PyProof.Rows L2 Sd.Gr
end Sd.Pu
namespace Sd.Pu
open PySem PySem.Spec PyProof.Rows L2 Sd.Gr
end Sd.Pu
namespace Sd.Pu
open PySem PySem.Spec PyProof.Rows L2 Sd.Gr
end Sd.Pu
namespace Sd.Pu
open PySem PySem.Spec PyProof.Rows L2 Sd.Gr
end Sd.Pu
namespace Sd.Pu
open PySem PySem.Spec PyProof.Rows L2 Sd.Gr
end Sd.Pu
namespace Sd.Pu
open PySem PySem.Spec PyProof.Rows L2 Sd.Gr
end Sd.Pu
namespace Sd.Pu
open PySem PySem.Spec PyProof.Rows L2 Sd.Gr
end Sd.Pu
namespace Sd.Pu
open PySem PySem.Spec PyProof.Rows L2 Sd.Gr
end Sd.Pu
namespace Sd.Pu
open PySem PySem.Spec PyProof.Rows L2 Sd.Gr
end Sd.Pu
namespace Sd.Pu
open PySem PySem.Spec PyProof.Rows L2 Sd.Gr
end Sd.Pu
namespace Sd.Pu
open PySem PySem.Spec PyProof.Rows L2 Sd.Gr
end Sd.Pu
namespace Sd.Pu
open PySem PySem.Spec PyProof.Rows L2
end Sd.Pu
namespace Sd.Pu
open PySem PySem.Spec PyProof.Rows L2 Sd.Gr
end Sd.Pu
namespace Sd.Pu
open PySem PySem.Spec PyProof.Rows L2 Sd.Gr
end Sd.Pu
namespace Sd.Pu
open PySem PySem.Spec PyProof.Rows L2 Sd.Gr
end Sd.Pu
namespace Sd.Pu
open PySem PySem.Spec PyProof.Rows L2 Sd.Gr
/-- no name -/
def NoName : PV → Prop
  | .str z => ¬ IsName z ∧ z.length ≤ sizeLine
  | .non => True
  | .bl _ => True
  | .int _ => True
  | .lst _ => True
  | .tup _ => True
  | .dct _ => True
  | _ => False
end Sd.Pu
namespace Sd.Pu
open PySem PySem.Spec PyProof.Rows L2
section
variable {us ls : List Str} {x : PV}
theorem contains_str {z : Str} : F_Deeds_contains [.fz (deedsP us), .fz (.str z)] = some ([.no, .no], .ok (.fz (.bl (decide (z ∈ us))))) := by
  have hin := in_strs z us
  unfold F_Deeds_contains deedsP
  refine Runs.eq <| rFn R0_ A2_ <| rRet <| rAndV <| rTest <| rCB <| rCons <| rL rfl <| kCons1 <| rCons <| rL rfl <| kCons1 <| rL rfl <| kCons2 <| kCons2 <| kCB rfl rfl <| kTest rfl <| kAndVT rfl <| rOp <| rL rfl <| kOp1 <| rUn <| rL rfl <| kUn rfl rfl <| kOp2 rfl rfl (inI hin) <| kRet tV <| ?_
  rfl
theorem contains_no (h : isiB x (.ty "str") = some false) : F_Deeds_contains [.fz (deedsP us), .fz x] = some ([.no, .no], .ok (.fz (.bl false))) := by
  have hp : pIsi [x, .ty "str"] = some (.fz (.bl false)) := by show (isiB x _).map _ = _; rw [h]; rfl
  unfold F_Deeds_contains deedsP
  refine Runs.eq <| rFn R0_ A2_ <| rRet <| rAndV <| rTest <| rCB <| rCons <| rL rfl <| kCons1 <| rCons <| rL rfl <| kCons1 <| rL rfl <| kCons2 <| kCons2 <| kCB rfl hp <| kTest rfl <| kAndVF rfl <| kRet tV <| ?_
  rfl
theorem contains_odd (hu : ∀ z ∈ us, IsName z) (h : NoName x) : F_Deeds_contains [.fz (deedsP us), .fz x] = some ([.no, .no], .ok (.fz (.bl false))) := by
  cases x with
  | str z =>
    have hn : z ∉ us := fun m => h.1 (hu z m)
    rw [contains_str, decide_eq_false hn]
  | non => exact contains_no rfl
  | bl b => exact contains_no rfl
  | int i => exact contains_no rfl
  | lst xs => exact contains_no rfl
  | tup xs => exact contains_no rfl
  | dct kvs => exact contains_no rfl
  | _ => exact h.elim
theorem insD (us : List Str) : insB "Deeds" (deedsP us) = true := by show decide ((Str.ofString "Deeds") = (Str.ofString "Deeds")) = true; exact decide_eq_true rfl
theorem in_of {b : Bool} (h : F_Deeds_contains [.fz (deedsP us), .fz x] = some ([.no, .no], .ok (.fz (.bl b)))) : inF "Deeds" F_Deeds_contains [.fz x, .fz (deedsP us)] = some ([.no, .no], .ok (.fz (.bl b))) := by
  unfold inF
  dsimp only
  rw [if_pos (insD us), h]
theorem nin_of {b : Bool} (h : F_Deeds_contains [.fz (deedsP us), .fz x] = some ([.no, .no], .ok (.fz (.bl b)))) : notInF "Deeds" F_Deeds_contains [.fz x, .fz (deedsP us)] = some ([.no, .no], .ok (.fz (.bl (!b)))) := by
  unfold notInF
  dsimp only
  rw [if_pos (insD us), h]
theorem len_deeds (lu : us.length ≤ 100) : lenF "Deeds" F_Deeds_len [.fz (deedsP us)] = some ([.no], .ok (.fz (.int us.length))) := by
  have l1 : (strsP us).length = us.length := List.length_map _
  have q : F_Deeds_len [.fz (deedsP us)] = some ([.no], .ok (.fz (.int (us.length : Nat)))) := by
    unfold F_Deeds_len deedsP
    refine Runs.eq <| rFn R0_ A1_ <| rRet <| rCB <| rCons <| rUn <| rL rfl <| kUn rfl rfl <| kCons1 <| rL rfl <| kCons2 <| kCB rfl rfl <| kRet tV <| ?_
    rw [l1] <;> rfl
  unfold lenF
  dsimp only
  rw [if_pos (insD us), q]
  exact if_pos ⟨by omega, by omega⟩
theorem bool_deeds : boolF "Deeds" F_Deeds_bool [.fz (deedsP us)] = some ([.no], .ok (.fz (.bl (bGt (us.length : Int) 0)))) := by
  have l1 : (strsP us).length = us.length := List.length_map _
  have q : F_Deeds_bool [.fz (deedsP us)] = some ([.no], .ok (.fz (.bl (bGt (us.length : Int) 0)))) := by
    unfold F_Deeds_bool deedsP
    refine Runs.eq <| rFn R0_ A1_ <| rRet <| rOp <| rCB <| rCons <| rUn <| rL rfl <| kUn rfl rfl <| kCons1 <| rL rfl <| kCons2 <| kCB rfl rfl <| kOp1 <| rL rfl <| kOp2 rfl rfl rfl <| kRet tV <| ?_
    rw [l1] <;> rfl
  unfold boolF
  dsimp only
  rw [if_pos (insD us), q]
theorem deeds_eq2 (hu : ∀ z ∈ us, IsName z) (hl : ∀ z ∈ ls, IsName z) : F_Deeds_eq [.fz (deedsP us), .fz (deedsP ls)] = some ([.no, .no], .ok (.fz (.bl (decide (us = ls))))) := by
  have e := eq_strsL hu hl
  unfold F_Deeds_eq deedsP
  refine Runs.eq <| rFn R0_ A2_ <| rRet <| rAndV <| rTest <| rCB <| rCons <| rL rfl <| kCons1 <| rCons <| rL rfl <| kCons1 <| rL rfl <| kCons2 <| kCons2 <| kCB rfl rfl <| kTest rfl <| kAndVT rfl <| rOp <| rUn <| rL rfl <| kUn rfl rfl <| kOp1 <| rUn <| rL rfl <| kUn rfl rfl <| kOp2 rfl rfl e <| kRet tV <| ?_
  rfl
theorem deeds_else (h : isiB x (.cl "Deeds") = some false) : F_Deeds_eq [.fz (deedsP us), .fz x] = some ([.no, .no], .ok (.fz (.bl false))) := by
  have hp : pIsi [x, .cl "Deeds"] = some (.fz (.bl false)) := by show (isiB x _).map _ = _; rw [h]; rfl
  unfold F_Deeds_eq deedsP
  refine Runs.eq <| rFn R0_ A2_ <| rRet <| rAndV <| rTest <| rCB <| rCons <| rL rfl <| kCons1 <| rCons <| rL rfl <| kCons1 <| rL rfl <| kCons2 <| kCons2 <| kCB rfl hp <| kTest rfl <| kAndVF rfl <| kRet tV <| ?_
  rfl
theorem ne_of {b : Bool} (hk : kindOk x = true) (h : F_Deeds_eq [.fz (deedsP us), .fz x] = some ([.no, .no], .ok (.fz (.bl b)))) : neF "Deeds" F_Deeds_eq [.fz (deedsP us), .fz x] = some ([.no, .no], .ok (.fz (.bl (!b)))) := by
  unfold neF
  dsimp only
  rw [if_pos (by show (decide ("Deeds" = "Deeds") && kindOk x) = true; rw [hk]; rfl), h]
theorem flag15 (b : Bool) : F_k15_flag [.fz (.bl b), .fz (.bl b)] = some ([.no, .no], .ok (.fz (.bl true))) := by
  unfold F_k15_flag
  cases b
  · refine Runs.eq <| rFn R0_ A2_ <| rRet <| rAndV <| rTest <| rCB <| rCons <| rL rfl <| kCons1 <| rCons <| rL rfl <| kCons1 <| rL rfl <| kCons2 <| kCons2 <| kCB rfl rfl <| kTest rfl <| kAndVT rfl <| rOp <| rL rfl <| kOp1 <| rL rfl <| kOp2 rfl rfl rfl <| kRet tV <| ?_
    rfl
  · refine Runs.eq <| rFn R0_ A2_ <| rRet <| rAndV <| rTest <| rCB <| rCons <| rL rfl <| kCons1 <| rCons <| rL rfl <| kCons1 <| rL rfl <| kCons2 <| kCons2 <| kCB rfl rfl <| kTest rfl <| kAndVT rfl <| rOp <| rL rfl <| kOp1 <| rL rfl <| kOp2 rfl rfl rfl <| kRet tV <| ?_
    rfl
end
def nest15 (x : PV) : Nat → PV
  | 0 => x
  | n + 1 => .tup [nest15 x n]
theorem deep15 (x : PV) : F_k15_deep [.fz x] = some ([.no], .ok (.fz (nest15 x 450))) := by
  obtain ⟨e1, q1, c1, rfl⟩ := rng_run (fg := fgName 1) (fb := lb1_k15_deep) (n := 450) (e0 := [.fz x, .no])
    (fun i e => ∃ c1, e = [.fz (nest15 x i), c1]) ⟨.no, rfl⟩ (by
    rintro i e hi ⟨c1, rfl⟩
    generalize hy : nest15 x i = y
    unfold lb1_k15_deep
    refine rBd (gV rfl s1_) <| rAsg <| rTup <| rCons <| rL rfl <| kCons1 <| rL rfl <| kCons2 <| kTup (z_ yV zN) rfl <| kAsg (gV rfl s0_) <| ?_
    exact ⟨_, by show _ = [SV.fz (PV.tup [nest15 x i]), _]; rw [hy]⟩)
  unfold F_k15_deep
  generalize nest15 x 450 = y at q1 ⊢
  refine Runs.eq <| rFn R1_ A1_ <| rSeq <| rFor <| riRng1 <| rCons <| rL rfl <| kCons1 <| rL rfl <| kCons2 <| kiRng1 rfl (by omega) (by omega) <| kFor <| rL q1 <| rRet <| rL rfl <| kRet tV <| ?_
  rfl
theorem within_eq {us gs : List Str} {v : PV} (w : F_words_of_row [.fz v] = some ([.no], .ok (.ow (.lst (strsP gs))))) : F_Deeds_within [.fz (deedsP us), .fz v] = some ([.no, .no], .ok (.fz (.bl (decide (∀ z ∈ us, z ∈ gs))))) := by
  obtain ⟨o, l1, ⟨e, rfl, ⟨c3, rfl⟩, al⟩ | ⟨⟨c3, rfl⟩, z, hz, hn⟩⟩ := told_gen (fg := fgName 3) (fb := lb1_Deeds_within) (f := PV.str) (xs := us) (e0 := [.fz (deedsP us), .fz v, .ow (.lst (strsP gs)), .no])
    (fun i e => (∃ c3 : SV, e = [.fz (deedsP us), .fz v, .ow (.lst (strsP gs)), c3]) ∧ ∀ j, j < i → ∀ z, us[j]? = some z → z ∈ gs) (fun o => (∃ c3 : SV, o = .rt [.fz (deedsP us), .fz v, .ow (.lst (strsP gs)), c3] (.fz (.bl false))) ∧ ∃ z, z ∈ us ∧ z ∉ gs) ⟨⟨.no, rfl⟩, fun j hj => by omega⟩ (by
    rintro i z e hi ⟨⟨c3, rfl⟩, al⟩
    have hin := in_strs z gs
    unfold lb1_Deeds_within
    by_cases c : z ∈ gs
    · rw [decide_eq_true c] at hin
      refine rBd (gV rfl s3_) <| rIf <| rTest <| rOp <| rL rfl <| kOp1 <| rL rfl <| kOp2 rfl rfl (ninI hin) <| kTest rfl <| kIfF rfl <| rL rfl <| ?_
      refine ⟨⟨_, rfl⟩, fun j hj y hy => ?_⟩
      rcases Nat.lt_or_ge j i with g | g
      · exact al j g y hy
      · cases (show j = i by omega)
        rw [hi] at hy; cases hy; exact c
    · rw [decide_eq_false c] at hin
      refine rBd (gV rfl s3_) <| rIf <| rTest <| rOp <| rL rfl <| kOp1 <| rL rfl <| kOp2 rfl rfl (ninI hin) <| kTest rfl <| kIfT rfl <| rRet <| rL rfl <| kRet tV <| ?_
      exact ⟨⟨_, rfl⟩, z, List.mem_of_getElem? hi, c⟩)
  · rw [decide_eq_true (show ∀ z ∈ us, z ∈ gs from fun z hz => by
      obtain ⟨j, hj⟩ := List.mem_iff_getElem?.mp hz
      exact al j (List.getElem?_eq_some_iff.mp hj).1 z hj)]
    unfold F_Deeds_within
    refine Runs.eq <| rFn R2_ A2_ <| rSeq <| rAsg <| rCall <| rCons <| rL rfl <| kCons1 <| rL rfl <| kCons2 <| kCall (p_ yV pN) w (bA rfl) <| kAsg (gV rfl s2_) <| rSeq <| rFor <| riSeq <| rUn <| rL rfl <| kUn rfl rfl <| kiSeq yV rfl <| kFor <| rL l1 <| rRet <| rL rfl <| kRet tV <| ?_
    rfl
  · rw [decide_eq_false (show ¬ ∀ z ∈ us, z ∈ gs from fun f => hn (f z hz))]
    unfold F_Deeds_within
    refine Runs.eq <| rFn R2_ A2_ <| rSeq <| rAsg <| rCall <| rCons <| rL rfl <| kCons1 <| rL rfl <| kCons2 <| kCall (p_ yV pN) w (bA rfl) <| kAsg (gV rfl s2_) <| rSeq <| rFor <| riSeq <| rUn <| rL rfl <| kUn rfl rfl <| kiSeq yV rfl <| kFor <| rL l1 <| ?_
    rfl
end Sd.Pu
namespace Sd.Pu
open PySem PySem.Spec PyProof.Rows L2
def oddN : List PV := [.non, .bl true, .int 7, .int (-1), .str "", .str "A", .str "a b", .str "abcdefghijklm", .str "a1", .lst [.str "a"], .tup [.str "a"], .dct [], .str "_", .str "aB", .str " a", .int (10 ^ (30 : Int).toNat)]
theorem oddN_ok : ∀ x ∈ oddN, NoName x ∧ sOk 7 x = true := fun x hx => by
  simp only [oddN, List.mem_cons, List.not_mem_nil, or_false] at hx
  have nn : ∀ z : Str, ¬ IsName z → z.length ≤ 100 → NoName (.str z) ∧ sOk 7 (.str z) = true := fun z h l => ⟨⟨h, by rw [sz]; omega⟩, rfl⟩
  rcases hx with rfl | rfl | rfl | rfl | rfl | rfl | rfl | rfl | rfl | rfl | rfl | rfl | rfl | rfl | rfl | rfl
  · exact ⟨trivial, rfl⟩
  · exact ⟨trivial, rfl⟩
  · exact ⟨trivial, rfl⟩
  · exact ⟨trivial, rfl⟩
  · exact nn _ (by unfold IsName; decide +kernel) (by decide +kernel)
  · exact nn _ (by unfold IsName; decide +kernel) (by decide +kernel)
  · exact nn _ (by unfold IsName; decide +kernel) (by decide +kernel)
  · exact nn _ (by unfold IsName; decide +kernel) (by decide +kernel)
  · exact nn _ (by unfold IsName; decide +kernel) (by decide +kernel)
  · exact ⟨trivial, by decide +kernel⟩
  · exact ⟨trivial, by decide +kernel⟩
  · exact ⟨trivial, rfl⟩
  · exact nn _ (by unfold IsName; decide +kernel) (by decide +kernel)
  · exact nn _ (by unfold IsName; decide +kernel) (by decide +kernel)
  · exact nn _ (by unfold IsName; decide +kernel) (by decide +kernel)
  · exact ⟨trivial, rfl⟩
theorem odd_name_eq {k : Int} (h0 : 0 ≤ k) (h1 : k < 16) : ∃ x, F_o_odd_name [.fz (.int k)] = some ([.no], .ok (.fz x)) ∧ NoName x ∧ sOk 7 x = true := by
  obtain ⟨y, ay, my⟩ := at_of (xs := oddN) (n := 16) rfl h0 h1
  have hm : k % 16 = k := Int.emod_eq_of_lt h0 h1
  refine ⟨y, ?_, oddN_ok y my⟩
  unfold oddN at ay
  rw [← hm] at ay
  unfold F_o_odd_name
  (refine Runs.eq <| rFn R1_ A1_ <| rSeq <| rAsg <| rLst <| rCons <| rL rfl <| kCons1 <| rCons <| rL rfl <| kCons1 <| rCons <| rL rfl <| kCons1 <| rCons <| rUn <| rL rfl <| kUn rfl rfl <| kCons1 <| rCons <| rL rfl <| kCons1 <| rCons <| rL rfl <| kCons1 <| rCons <| rL rfl <| kCons1 <| rCons <| rL rfl <| ?_; refine kCons1 <| rCons <| rL rfl <| kCons1 <| rCons <| rLst <| rCons <| rL rfl <| kCons1 <| rL rfl <| kCons2 <| kLst (z_ yV zN) rfl <| kCons1 <| rCons <| rTup <| rCons <| rL rfl <| kCons1 <| rL rfl <| kCons2 <| kTup (z_ yV zN) rfl <| kCons1 <| rCons <| rL rfl <| kCons1 <| rCons <| rL rfl <| kCons1 <| rCons <| rL rfl <| ?_; refine kCons1 <| rCons <| rL rfl <| kCons1 <| rCons <| rOp <| rL rfl <| kOp1 <| rL rfl <| kOp2 rfl rfl rfl <| kCons1 <| rL rfl <| kCons2 <| kCons2 <| kCons2 <| kCons2 <| kCons2 <| kCons2 <| kCons2 <| kCons2 <| kCons2 <| kCons2 <| kCons2 <| kCons2 <| kCons2 <| kCons2 <| kCons2 <| kCons2 <| kLst (z_ yV (z_ yV (z_ yV (z_ yV (z_ yV (z_ yV (z_ yV (z_ yV (z_ yV (z_ yO (z_ yV (z_ yV (z_ yV (z_ yV (z_ yV (z_ yV zN)))))))))))))))) rfl <| kAsg (gV rfl s1_) <| ?_; refine rRet <| rOp <| rL rfl <| kOp1 <| rOp <| rCB <| rCons <| rL rfl <| kCons1 <| rL rfl <| kCons2 <| kCB rfl rfl <| kOp1 <| rL rfl <| kOp2 rfl rfl rfl <| kOp2 rfl rfl (ixL ay) <| kRet tV <| ?_)
  rfl
end Sd.Pu
namespace Sd.Pu
open PySem PySem.Spec PyProof.Rows L2
end Sd.Pu
namespace Sd.Pu
open PySem PySem.Spec PyProof.Rows L2
theorem len_allU (ws : List Str) : (allT ws).length = (uniq ws).length := by
  have n2 : (uniq ws).Nodup := List.Pairwise.imp (fun {a b} k e => by rw [e] at k; exact absurd k (ltT_irr b)) (asc_uniq _)
  exact Nat.le_antisymm (nodup_leG _ _ (nodup_allT _) fun x hx => mem_uniq.mpr (mem_allT.mp hx)) (nodup_leG _ _ n2 fun x hx => mem_allT.mpr (mem_uniq.mp hx))
theorem same_sets (ws ts : List Str) : sameS (allT ws) (allT ts) = decide (uniq ws = uniq ts) := by
  unfold sameS
  by_cases c : uniq ws = uniq ts
  · have h1 : (allT ws).length = (allT ts).length := by rw [len_allU, len_allU, c]
    have h2 : ∀ z ∈ allT ws, z ∈ allT ts := fun z hz => mem_allT.mpr (mem_uniq.mp (c ▸ mem_uniq.mpr (mem_allT.mp hz)))
    rw [decide_eq_true h1, decide_eq_true h2, decide_eq_true c]
    rfl
  · rw [decide_eq_false c]
    by_cases h1 : (allT ws).length = (allT ts).length
    · by_cases h2 : ∀ z ∈ allT ws, z ∈ allT ts
      · refine (c (uniq_congr fun y => ⟨fun m => mem_allT.mp (h2 y (mem_allT.mpr m)), fun m => ?_⟩)).elim
        by_cases g : y ∈ ws
        · exact g
        · have l := nodup_leG (y :: allT ws) (allT ts) (List.nodup_cons.mpr ⟨fun q => g (mem_allT.mp q), nodup_allT ws⟩) fun x hx => by
            rcases List.mem_cons.mp hx with rfl | hx
            · exact mem_allT.mpr m
            · exact h2 x hx
          rw [List.length_cons] at l
          omega
      · rw [decide_eq_false h2, Bool.and_false]
    · rw [decide_eq_false h1, Bool.false_and]
theorem set_one (ws : List Str) (few : ws.length ≤ 1000) : pSet [.lst (strsP ws)] = some (.fz (.tset (allT ws))) ∧ pSortedS [.tset (allT ws)] = some (.ow (.lst (strsP (uniq ws)))) ∧ pLenT [.tset (allT ws)] = some (.fz (.int (uniq ws).length)) := by
  refine ⟨?_, ?_, ?_⟩
  · unfold pSet
    dsimp only
    rw [txtsOf_map]
    dsimp only
    rw [if_pos few]
  · show some (SV.ow (.lst (strsP (uniq (allT ws))))) = _
    rw [uniq_allT]
  · unfold pLenT
    have := len_allT ws
    dsimp only
    rw [if_pos (by omega), len_allU]
theorem pick15_eq {x : PV} (hx : IsPool x) {zs : List Str} (z0 : zs ≠ []) (zl : zs.length ≤ 10) : ∃ x' ws, F_k15_pick [.ow x, .fz (.lst (strsP zs))] = some ([.ow x', .no], .ok (.ow (.lst (strsP ws)))) ∧ IsPool x' ∧ (∀ z ∈ ws, z ∈ zs) ∧ ws.length ≤ 20 := by
  have lz : (strsP zs).length = zs.length := List.length_map _
  have lp := List.length_pos_iff.mpr z0
  obtain ⟨x1, n, d1, hx1, n0, n1⟩ := draw hx (2 * ((strsP zs).length : Int)) (by omega) (by omega)
  obtain ⟨n, rfl⟩ := Int.eq_ofNat_of_zero_le n0
  have n20 : n ≤ 20 := by omega
  obtain ⟨e', acc, lc, x2, ws, hx2, rfl, rfl, w1, w2⟩ := lc_rng (fg := fgName 2) (ft := fYes) (fe := ce1_k15_pick) (vs := [2]) (n := n) (e := [.ow x1, .fz (.lst (strsP zs)), .no])
    (fun i e acc => ∃ x2 ws, IsPool x2 ∧ e = [.ow x2, .fz (.lst (strsP zs)), .no] ∧ acc = strsP ws ∧ (∀ z ∈ ws, z ∈ zs) ∧ ws.length = i) (by rw [sz]; omega) ⟨x1, [], hx1, rfl, rfl, by simp, rfl⟩ (by
    rintro i e acc hi ⟨x2, ws, hx2, rfl, rfl, w1, w2⟩
    obtain ⟨x3, r, y, d, hx3, ha, hy⟩ := pick PV.str zs z0 (by omega) hx2
    have ha : atI (strsP zs) r = some (.str y) := ha
    have d : F_law_draw [.ow x2, .fz (.int ((strsP zs).length : Nat))] = _ := d
    unfold ce1_k15_pick
    refine rSt (gV rfl s2_) <| rL rfl <| kStT rfl <| rOp <| rL rfl <| kOp1 <| rCall0 <| rCons <| rL rfl <| kCons1 <| rCons <| rCB <| rCons <| rL rfl <| kCons1 <| rL rfl <| kCons2 <| kCB rfl rfl <| kCons1 <| rL rfl <| kCons2 <| kCons2 <| kCall0 (pM rfl s0_ (p_ yV pN)) d (bT s0_ (bA rfl)) <| kOp2 rfl rfl (ixL ha) <| kSt2 yV <| ?_
    refine ⟨x3, ws ++ [y], hx3, rfl, (by unfold strsP; rw [List.map_append]; rfl), fun z hz => ?_, by simp [w2]⟩
    rcases List.mem_append.mp hz with h | h
    · exact w1 z h
    · rw [List.mem_singleton.mp h]; exact hy)
  refine ⟨x2, ws, ?_, hx2, w1, by omega⟩
  unfold F_k15_pick
  (refine Runs.eq <| rFn R1_ A2_ <| rRet <| rLc <| riRng1 <| rCons <| rCall <| rCons <| rL rfl <| kCons1 <| rCons <| rOp <| rL rfl <| kOp1 <| rCB <| rCons <| rL rfl <| kCons1 <| rL rfl <| kCons2 <| kCB rfl rfl <| kOp2 rfl rfl (mulI (by omega)) <| kCons1 <| rL rfl <| kCons2 <| kCons2 <| kCall (pM rfl s0_ (p_ yV pN)) d1 (bT s0_ (bA rfl)) <| kCons1 <| rL rfl <| kCons2 <| ?_; refine kiRng1 rfl (by omega) (by omega) <| kLc rfl (wC wN s2_) <| rL lc <| kLcE (rC rfl s2_ rN) <| kRet tV <| ?_)
  rfl
/-- a loop over things that are no sets of names -/
theorem else_loop {us : List Str} {A B : PV} {L : List PV} (hL : ∀ x ∈ L, kindOk x = true ∧ isiB x (.cl "Deeds") = some false) : ∃ c, loopS (fgName 3) lb1_k15_else L [.fz (deedsP us), .fz A, .fz B, .no] = some (.nx [.fz (deedsP us), .fz A, .fz B, c]) := by
  obtain ⟨o, l1, ⟨e, rfl, c, rfl⟩ | h⟩ := raw_gen (fg := fgName 3) (fb := lb1_k15_else) (ys := L) (e0 := [.fz (deedsP us), .fz A, .fz B, .no])
    (fun i e => ∃ c, e = [.fz (deedsP us), .fz A, .fz B, c]) (fun o => False) ⟨.no, rfl⟩ (by
    rintro i x e hx ⟨c, rfl⟩
    obtain ⟨k1, k2⟩ := hL x (List.mem_of_getElem? hx)
    have q := deeds_else (us := us) k2
    have q2 := ne_of (us := us) k1 q
    have k3 : eqOk "Deeds" (deedsP us) x = true := by
      show (decide ("Deeds" = "Deeds") && kindOk x) = true
      rw [k1]; rfl
    have f1 := flag15 false
    have f2 := flag15 true
    unfold lb1_k15_else
    generalize deedsP us = D at q q2 k3 ⊢
    (refine rBd (gV rfl s3_) <| rIf <| rOr <| rNot <| rTru <| rCall <| rCons <| rEqW <| rCons <| rL rfl <| kCons1 <| rCons <| rL rfl <| kCons1 <| rL rfl <| kCons2 <| kCons2 <| kEqO (z_ yV (z_ yV zN)) k3 q <| kCons1 <| rCons <| rL rfl <| kCons1 <| rL rfl <| kCons2 <| kCons2 <| kCall (p_ yV (p_ yV pN)) f1 (bA rfl) <| kTru rfl rfl <| kNotT rfl <| kOrF rfl <| rNot <| ?_; refine rTru <| rCall <| rCons <| rCall <| rCons <| rL rfl <| kCons1 <| rCons <| rL rfl <| kCons1 <| rL rfl <| kCons2 <| kCons2 <| kCall (p_ yV (p_ yV pN)) q2 (bA rfl) <| kCons1 <| rCons <| rL rfl <| kCons1 <| rL rfl <| kCons2 <| kCons2 <| kCall (p_ yV (p_ yV pN)) f2 (bA rfl) <| kTru rfl rfl <| kNotT rfl <| kIfF rfl <| rL rfl <| ?_)
    exact ⟨_, rfl⟩)
  · exact ⟨c, l1⟩
  · exact h.elim
theorem else15 {ws zs : List Str} {z : Str} (hw : ∀ y ∈ ws, IsName y) (lw : ws.length ≤ 20) (hz : atI (strsP zs) 0 = some (.str z)) : F_k15_else [.fz (deedsP (uniq ws)), .fz (.lst (strsP ws)), .fz (.lst (strsP zs))] = some ([.no, .no, .no], .ok (.fz (.bl true))) := by
  obtain ⟨s1, s2, s3⟩ := set_one ws (by omega)
  obtain ⟨c, l1⟩ := else_loop (us := uniq ws) (A := .lst (strsP ws)) (B := .lst (strsP zs)) (L := [.lst (strsP (uniq ws)), .tup (strsP (uniq ws)), .lst (strsP ws), .non, .bl true, .str z, .int (uniq ws).length]) (fun x hx => by
    simp only [List.mem_cons, List.not_mem_nil, or_false] at hx
    rcases hx with rfl | rfl | rfl | rfl | rfl | rfl | rfl <;> exact ⟨rfl, rfl⟩)
  have lu : (uniq ws).length ≤ ws.length := uniq_len ws
  have hnm : F_Deeds_names [.fz (deedsP (uniq ws))] = some ([.no], .ok (.ow (.lst (strsP (uniq ws))))) := by
    unfold F_Deeds_names
    refine Runs.eq <| rFn R0_ A1_ <| rRet <| rCB <| rCons <| rUn <| rL rfl <| kUn rfl rfl <| kCons1 <| rL rfl <| kCons2 <| kCB rfl rfl <| kRet tV <| ?_
    rfl
  have l2 : (strsP (uniq ws)).length = (uniq ws).length := List.length_map _
  have ls : (strsP ws).length = ws.length := List.length_map _
  have sm : F_law_same 8 [.fz (.lst (strsP (uniq ws))), .fz (.lst (strsP (uniq ws)))] = some ([.no, .no], .ok (.fz (.bl true))) := same_refl 8 _ (by
    show (decide ((strsP (uniq ws)).length ≤ 1000000) && (strsP (uniq ws)).all (sOk 7)) = true
    rw [decide_eq_true (show (strsP (uniq ws)).length ≤ 1000000 by omega), List.all_eq_true.mpr (fun x hx => by obtain ⟨y, _, rfl⟩ := List.mem_map.mp hx; rfl)]
    rfl)
  unfold F_k15_else
  (refine Runs.eq <| rFn R1_ A3_ <| rSeq <| rFor <| riSeq <| rLst <| rCons <| rCB <| rCons <| rCB <| rCons <| rL rfl <| kCons1 <| rL rfl <| kCons2 <| kCB rfl s1 <| kCons1 <| rL rfl <| kCons2 <| kCB rfl s2 <| kCons1 <| rCons <| rCB <| rCons <| rCB <| rCons <| rCB <| rCons <| rL rfl <| kCons1 <| ?_; refine rL rfl <| kCons2 <| kCB rfl s1 <| kCons1 <| rL rfl <| kCons2 <| kCB rfl s2 <| kCons1 <| rL rfl <| kCons2 <| kCB rfl rfl <| kCons1 <| rCons <| rCB <| rCons <| rL rfl <| kCons1 <| rL rfl <| kCons2 <| kCB rfl rfl <| kCons1 <| rCons <| rL rfl <| kCons1 <| rCons <| rL rfl <| kCons1 <| rCons <| rOp <| rL rfl <| ?_; refine kOp1 <| rL rfl <| kOp2 rfl rfl (ixL hz) <| kCons1 <| rCons <| rCB <| rCons <| rCB <| rCons <| rL rfl <| kCons1 <| rL rfl <| kCons2 <| kCB rfl s1 <| kCons1 <| rL rfl <| kCons2 <| kCB rfl s3 <| kCons1 <| rL rfl <| kCons2 <| kCons2 <| kCons2 <| kCons2 <| kCons2 <| kCons2 <| kCons2 <| kLst (z_ yO (z_ yV (z_ yO (z_ yV (z_ yV (z_ yV (z_ yV zN))))))) rfl <| kiSeq yO rfl <| kFor <| ?_; refine rL l1 <| rRet <| rCall <| rCons <| rMeth <| rL rfl <| kMeth1 rfl <| rL rfl <| kMeth2 (p_ yV pN) hnm (bA rfl) <| kCons1 <| rCons <| rCB <| rCons <| rCB <| rCons <| rL rfl <| kCons1 <| rL rfl <| kCons2 <| kCB rfl s1 <| kCons1 <| rL rfl <| kCons2 <| kCB rfl s2 <| kCons1 <| rL rfl <| kCons2 <| kCons2 <| kCall (p_ yO (p_ yO pN)) sm (bA rfl) <| kRet tV <| ?_)
  rfl
end Sd.Pu
namespace Sd.Pu
open PySem PySem.Spec PyProof.Rows L2
theorem word_loop {ws us : List Str} (L : List Str) (s0 s1 s2 s3 : SV) : ∃ c, loopS (fgName 8) lb1_k15_law (L.map PV.str) [s0, s1, s2, s3, .fz (.lst (strsP ws)), .ow (.lst (strsP us)), .fz (deedsP (uniq ws)), .fz (deedsP (uniq us)), .no, .no, .no, .no, .no] = some (.nx [s0, s1, s2, s3, .fz (.lst (strsP ws)), .ow (.lst (strsP us)), .fz (deedsP (uniq ws)), .fz (deedsP (uniq us)), c, .no, .no, .no, .no]) := by
  obtain ⟨o, l1, ⟨e, rfl, c, rfl⟩ | h⟩ := told_gen (fg := fgName 8) (fb := lb1_k15_law) (f := PV.str) (xs := L) (e0 := [s0, s1, s2, s3, .fz (.lst (strsP ws)), .ow (.lst (strsP us)), .fz (deedsP (uniq ws)), .fz (deedsP (uniq us)), .no, .no, .no, .no, .no])
    (fun i e => ∃ c, e = [s0, s1, s2, s3, .fz (.lst (strsP ws)), .ow (.lst (strsP us)), .fz (deedsP (uniq ws)), .fz (deedsP (uniq us)), c, .no, .no, .no, .no]) (fun o => False) ⟨.no, rfl⟩ (by
    rintro i z e hx ⟨c, rfl⟩
    have h1 := in_strs z ws
    have h2 := in_strs z us
    have g1 := in_of (contains_str (us := uniq ws) (z := z))
    have g2 := nin_of (contains_str (us := uniq us) (z := z))
    have e1 : decide (z ∈ uniq ws) = decide (z ∈ ws) := decide_eq_decide.mpr mem_uniq
    have e2 : decide (z ∈ uniq us) = decide (z ∈ us) := decide_eq_decide.mpr mem_uniq
    rw [e1] at g1
    rw [e2] at g2
    have h3 : pNotIn (.str z) (.lst (strsP us)) = some (.fz (.bl (!decide (z ∈ us)))) := by unfold pNotIn; rw [h2] <;> rfl
    generalize decide (z ∈ ws) = b1 at h1 g1
    generalize decide (z ∈ us) = b2 at h2 g2 h3
    have f1 := flag15 b1
    have f2 := flag15 (!b2)
    generalize deedsP (uniq ws) = D1 at g1 ⊢
    generalize deedsP (uniq us) = D2 at g2 ⊢
    unfold lb1_k15_law
    (refine rBd (gV rfl s8_) <| rIf <| rOr <| rNot <| rTru <| rCall <| rCons <| rCall <| rCons <| rL rfl <| kCons1 <| rCons <| rL rfl <| kCons1 <| rL rfl <| kCons2 <| kCons2 <| kCall (p_ yV (p_ yV pN)) g1 (bA rfl) <| kCons1 <| rCons <| rOp <| rL rfl <| kOp1 <| rL rfl <| kOp2 rfl rfl (inI h1) <| kCons1 <| rL rfl <| kCons2 <| kCons2 <| kCall (p_ yV (p_ yV pN)) f1 (bA rfl) <| ?_; refine kTru rfl rfl <| kNotT rfl <| kOrF rfl <| rNot <| rTru <| rCall <| rCons <| rCall <| rCons <| rL rfl <| kCons1 <| rCons <| rL rfl <| kCons1 <| rL rfl <| kCons2 <| kCons2 <| kCall (p_ yV (p_ yV pN)) g2 (bA rfl) <| kCons1 <| rCons <| rOp <| rL rfl <| kOp1 <| rL rfl <| kOp2 rfl rfl h3 <| kCons1 <| rL rfl <| kCons2 <| kCons2 <| kCall (p_ yV (p_ yV pN)) f2 (bA rfl) <| ?_; refine kTru rfl rfl <| kNotT rfl <| kIfF rfl <| rL rfl <| ?_)
    exact ⟨_, rfl⟩)
  · exact ⟨c, l1⟩
  · exact h.elim
theorem odd_loop {ws : List Str} (hw : ∀ z ∈ ws, IsName z) (s0 s1 s2 s3 s4 s5 s7 s8 s11 s12 : SV) : ∃ c9 c10, loopS (fgName 9) lb2_k15_law (rngF 0 (16 : Int).toNat) [s0, s1, s2, s3, s4, s5, .fz (deedsP ws), s7, s8, .no, .no, s11, s12] = some (.nx [s0, s1, s2, s3, s4, s5, .fz (deedsP ws), s7, s8, c9, c10, s11, s12]) := by
  obtain ⟨e, l1, c9, c10, rfl⟩ := rng_run (fg := fgName 9) (fb := lb2_k15_law) (n := 16) (e0 := [s0, s1, s2, s3, s4, s5, .fz (deedsP ws), s7, s8, .no, .no, s11, s12])
    (fun i e => ∃ c9 c10, e = [s0, s1, s2, s3, s4, s5, .fz (deedsP ws), s7, s8, c9, c10, s11, s12]) ⟨.no, .no, rfl⟩ (by
    rintro i e hi ⟨c9, c10, rfl⟩
    obtain ⟨x, hx, nx, _⟩ := odd_name_eq (k := (i : Nat)) (by omega) (by omega)
    have g1 := in_of (contains_odd hw nx)
    have f1 := flag15 false
    generalize deedsP ws = D1 at g1 ⊢
    unfold lb2_k15_law
    (refine rBd (gV rfl s9_) <| rSeq <| rAsg <| rCall <| rCons <| rL rfl <| kCons1 <| rL rfl <| kCons2 <| kCall (p_ yV pN) hx (bA rfl) <| kAsg (gV rfl s10_) <| rIf <| rNot <| rTru <| rCall <| rCons <| rCall <| rCons <| rL rfl <| kCons1 <| rCons <| rL rfl <| kCons1 <| rL rfl <| kCons2 <| kCons2 <| kCall (p_ yV (p_ yV pN)) g1 (bA rfl) <| kCons1 <| rCons <| rL rfl <| ?_; refine kCons1 <| rL rfl <| kCons2 <| kCons2 <| kCall (p_ yV (p_ yV pN)) f1 (bA rfl) <| kTru rfl rfl <| kNotT rfl <| kIfF rfl <| rL rfl <| ?_)
    exact ⟨_, _, rfl⟩)
  exact ⟨c9, c10, l1⟩
theorem lies_loop {ws us : List Str} (few : ws.length ≤ 1000) (s0 s1 s2 s3 s4 s6 s7 s9 s10 s11 s12 : SV) : lcLoop (fgName 8) ct1_k15_law ce1_k15_law [8] (strsP ws) [s0, s1, s2, s3, s4, .ow (.lst (strsP us)), s6, s7, .no, s9, s10, s11, s12] [] = some ([s0, s1, s2, s3, s4, .ow (.lst (strsP us)), s6, s7, .no, s9, s10, s11, s12], (ws.filter fun z => decide (z ∉ us)).map PV.str) := by
  refine lc_fil _ _ _ (by rw [sz]; omega) fun z hz => ?_
  have hin := in_strs z us
  unfold ct1_k15_law ce1_k15_law
  by_cases c : z ∈ us
  · rw [decide_eq_true c] at hin
    refine rSt (gV rfl s8_) <| rTest <| rOp <| rL rfl <| kOp1 <| rL rfl <| kOp2 rfl rfl (ninI hin) <| kTest rfl <| kStF rfl <| ?_
    exact ⟨by rw [if_neg (fun h => (of_decide_eq_true h) c)] <;> rfl, rfl⟩
  · rw [decide_eq_false c] at hin
    refine rSt (gV rfl s8_) <| rTest <| rOp <| rL rfl <| kOp1 <| rL rfl <| kOp2 rfl rfl (ninI hin) <| kTest rfl <| kStT rfl <| rL rfl <| kSt2 yV <| ?_
    exact ⟨by rw [if_pos (decide_eq_true c)] <;> rfl, rfl⟩
theorem lies15 {ws us : List Str} : eqP (.int ((strsP (ws.filter fun z => decide (z ∉ us))).length : Nat)) (.int 0) = decide (∀ z ∈ uniq ws, z ∈ uniq us) := by
  have e : ((((strsP (ws.filter fun z => decide (z ∉ us))).length : Nat) : Int) = 0) ↔ ∀ z ∈ uniq ws, z ∈ uniq us := by
    rw [List.length_map]
    constructor
    · intro h z hz
      have h0 : (ws.filter fun z => decide (z ∉ us)) = [] := List.length_eq_zero_iff.mp (by omega)
      by_cases c : z ∈ us
      · exact mem_uniq.mpr c
      · have : z ∈ ws.filter fun z => decide (z ∉ us) := List.mem_filter.mpr ⟨mem_uniq.mp hz, decide_eq_true c⟩
        rw [h0] at this; cases this
    · intro h
      have h0 : (ws.filter fun z => decide (z ∉ us)) = [] := List.filter_eq_nil_iff.mpr fun z hz q => (of_decide_eq_true q) (mem_uniq.mp (h z (mem_uniq.mpr hz)))
      rw [h0]; rfl
  rw [eq_int, decide_eq_decide.mpr e]
theorem k15_holds (ns : List Int) (hl : ns.length ≤ 63) : F_k15_law [.fz (.scr ns)] = some ([.no], .ok (.fz (.bl true))) := by
  obtain ⟨c0, ce0⟩ := cell_eq ns 0 (by omega)
  obtain ⟨c1, ce1⟩ := cell_eq ns 1 (by omega)
  obtain ⟨c2, ce2⟩ := cell_eq ns 2 (by omega)
  obtain ⟨pa, pb, po⟩ := pool_eq c0
  obtain ⟨pa1, pb1, po1⟩ := pool_eq c1
  obtain ⟨pa2, pb2, po2⟩ := pool_eq c2
  obtain ⟨x1, r, d1, hx1, r0, r1⟩ := draw (x := poolP pa pb 0) ⟨_, _, _, rfl⟩ 6 (by decide) (by decide)
  obtain ⟨x2, p, d2, hx2, p0, p1⟩ := draw hx1 8 (by decide) (by decide)
  obtain ⟨n, hn⟩ : ∃ n : Nat, 1 + p = (n : Int) := ⟨(1 + p).toNat, by omega⟩
  obtain ⟨x4, zs, d4, hx4, z4, hz, znd⟩ := names_eq hx2 (m := n) (by omega)
  rw [← hn] at d4
  have z0 : zs ≠ [] := fun e => by
    rw [e] at z4
    have : (0 : Nat) = n := z4
    omega
  obtain ⟨x5, ws, d5, hx5, w1, w2⟩ := pick15_eq (x := poolP pa1 pb1 0) ⟨_, _, _, rfl⟩ z0 (by omega)
  obtain ⟨x6, vs, d6, hx6, v1, v2⟩ := pick15_eq (x := poolP pa2 pb2 0) ⟨_, _, _, rfl⟩ z0 (by omega)
  have hw : ∀ z ∈ ws, IsName z := fun z m => hz z (w1 z m)
  have hv : ∀ z ∈ vs, IsName z := fun z m => hz z (v1 z m)
  unfold F_k15_law
  (refine Runs.eq <| rFn R12_ A1_ <| rSeq <| rAsg <| rCall <| rCons <| rCall <| rCons <| rL rfl <| kCons1 <| rCons <| rL rfl <| kCons1 <| rL rfl <| kCons2 <| kCons2 <| kCall (p_ yV (p_ yV pN)) ce0 (bA rfl) <| kCons1 <| rL rfl <| kCons2 <| kCall (p_ yV pN) po (bA rfl) <| kAsg (gV rfl s1_) <| rSeq <| rAsg <| rCall <| rCons <| rL rfl <| kCons1 <| rCons <| rL rfl <| ?_; refine kCons1 <| rL rfl <| kCons2 <| kCons2 <| kCall (pM rfl s1_ (p_ yV pN)) d1 (bT s1_ (bA rfl)) <| kAsg (gV rfl s2_) <| rSeq <| rAsg <| rCall <| rCons <| rL rfl <| kCons1 <| rCons <| rOp <| rL rfl <| kOp1 <| rCall <| rCons <| rL rfl <| kCons1 <| rCons <| rL rfl <| kCons1 <| rL rfl <| kCons2 <| kCons2 <| kCall (pM rfl s1_ (p_ yV pN)) d2 (bT s1_ (bA rfl)) <| kOp2 rfl rfl rfl <| kCons1 <| rL rfl <| ?_; refine kCons2 <| kCons2 <| kCall (pM rfl s1_ (p_ yV pN)) d4 (bT s1_ (bA rfl)) <| kAsg (gV rfl s3_) <| rSeq <| rAsg <| rCall <| rCons <| rCall <| rCons <| rCall <| rCons <| rL rfl <| kCons1 <| rCons <| rL rfl <| kCons1 <| rL rfl <| kCons2 <| kCons2 <| kCall (p_ yV (p_ yV pN)) ce1 (bA rfl) <| kCons1 <| rL rfl <| kCons2 <| kCall (p_ yV pN) po1 (bA rfl) <| kCons1 <| rCons <| rL rfl <| kCons1 <| rL rfl <| ?_; refine kCons2 <| kCons2 <| kCall (pMV (p_ (yBO rfl s3_) pN)) d5 (bV (bA rfl)) <| kAsg (gV rfl s4_) <| rSeq <| rAsg <| rCall <| rCons <| rCall <| rCons <| rCall <| rCons <| rL rfl <| kCons1 <| rCons <| rL rfl <| kCons1 <| rL rfl <| kCons2 <| kCons2 <| kCall (p_ yV (p_ yV pN)) ce2 (bA rfl) <| kCons1 <| rL rfl <| kCons2 <| kCall (p_ yV pN) po2 (bA rfl) <| kCons1 <| rCons <| rL rfl <| kCons1 <| rL rfl <| ?_; refine kCons2 <| kCons2 <| kCall (pMV (p_ yV pN)) d6 (bV (bA rfl)) <| kAsg (gV rfl s5_) <| ?_)
  have rv : (strsP ws).reverse = strsP ws.reverse := List.map_reverse.symm
  have dr : cutP (strsP ws) (some 1) none = strsP (ws.drop 1) := by
    unfold cutP
    rw [HT.sIx_none, show (1 : Int) = ((1 : Nat) : Int) from rfl, HT.sIx_nat]
    by_cases c : 1 ≤ (strsP ws).length
    · rw [Nat.min_eq_left c, List.take_of_length_le (by rw [List.length_drop]; omega)]
      exact List.map_drop.symm
    · have h0 : ws = [] := List.length_eq_zero_iff.mp (by rw [List.length_map] at c; omega)
      rw [h0] <;> rfl
  refine rCut (fun e0 e => ∃ ts, (∀ z ∈ ts, z ∈ zs) ∧ ts.length ≤ 20 ∧ e = sl e0 [(5, SV.ow (.lst (strsP ts)))]) ?_ ?_
  · by_cases g : r = 0
    · refine rIf <| rTest <| rOp <| rL rfl <| kOp1 <| rL rfl <| kOp2 rfl rfl rfl <| kTest rfl <| kIfT (tEqI (by with_reducible assumption)) <| rAsg <| rUn <| rL rfl <| kUn rfl rfl <| kAsg (gV rfl s5_) <| ?_
      exact ⟨_, rfl, ws.reverse, fun z h => w1 z (List.mem_reverse.mp h), by rw [List.length_reverse]; exact w2, by rw [← rv] <;> rfl⟩
    · refine rIf <| rTest <| rOp <| rL rfl <| kOp1 <| rL rfl <| kOp2 rfl rfl rfl <| kTest rfl <| kIfF (nEqI (by with_reducible assumption)) <| rL rfl <| ?_
      exact ⟨_, rfl, vs, v1, v2, rfl⟩
  rintro _ ⟨ts, t1, t2, rfl⟩
  refine rCut (fun e0 e => ∃ us, (∀ z ∈ us, z ∈ zs) ∧ us.length ≤ 20 ∧ e = sl e0 [(5, SV.ow (.lst (strsP us)))]) ?_ ?_
  · by_cases g : r = 1
    · refine rIf <| rTest <| rOp <| rL rfl <| kOp1 <| rL rfl <| kOp2 rfl rfl rfl <| kTest rfl <| kIfT (tEqI (by with_reducible assumption)) <| rAsg <| rSl <| rL rfl <| kSl1 <| rPart <| rL rfl <| kPart rfl <| kSl2 <| rPart0 <| kSl3 rfl rfl <| kAsg (gV rfl s5_) <| ?_
      exact ⟨_, rfl, ws.drop 1, fun z h => w1 z (List.mem_of_mem_drop h), by rw [List.length_drop]; omega, by rw [← dr] <;> rfl⟩
    · refine rIf <| rTest <| rOp <| rL rfl <| kOp1 <| rL rfl <| kOp2 rfl rfl rfl <| kTest rfl <| kIfF (nEqI (by with_reducible assumption)) <| rL rfl <| ?_
      exact ⟨_, rfl, ts, t1, t2, rfl⟩
  rintro _ ⟨us, u1, u2, rfl⟩
  have hu : ∀ z ∈ us, IsName z := fun z m => hz z (u1 z m)
  have lw := uniq_len ws
  have lu := uniq_len us
  have hwu : ∀ z ∈ uniq ws, IsName z := fun z m => hw z (mem_uniq.mp m)
  have huu : ∀ z ∈ uniq us, IsName z := fun z m => hu z (mem_uniq.mp m)
  have lws : (strsP ws).length = ws.length := List.length_map _
  have lus : (strsP us).length = us.length := List.length_map _
  have lzs : (strsP zs).length = zs.length := List.length_map _
  have m1 := deeds_make (ws := ws) hw (by omega) (v := .lst (strsP ws)) (.inl rfl)
  have m2 := deeds_make (ws := us) hu (by omega) (v := .tup (strsP us)) (.inr rfl)
  have m3 : mkF "Deeds" F_Deeds_init [] [.fz (.tup [])] = some ([.no], .ok (.ow (deedsP []))) := deeds_make (ws := []) (fun z h => by cases h) (by decide) (v := .tup []) (.inr rfl)
  have m4 : mkF "Deeds" F_Deeds_init [] [.fz (.lst [])] = some ([.no], .ok (.ow (deedsP []))) := deeds_make (ws := []) (fun z h => by cases h) (by decide) (v := .lst []) (.inl rfl)
  have n1 := len_deeds (us := uniq ws) (by omega)
  have n2 := len_deeds (us := uniq us) (by omega)
  obtain ⟨s1, s2, s3⟩ := set_one ws (by omega)
  obtain ⟨s4, s5, s6⟩ := set_one us (by omega)
  have sm : F_law_same 8 [.fz (.tup [.int (uniq ws).length, .int (uniq us).length]), .fz (.tup [.int (uniq ws).length, .int (uniq us).length])] = some ([.no, .no], .ok (.fz (.bl true))) := same_refl 8 _ rfl
  have b1 : boolF "Deeds" F_Deeds_bool [.fz (deedsP (uniq ws))] = some ([.no], .ok (.fz (.bl (bGt ((strsP ws).length : Int) 0)))) := by
    have e : bGt ((strsP ws).length : Int) 0 = bGt ((uniq ws).length : Int) 0 := by
      have : (strsP ws).length = 0 ↔ (uniq ws).length = 0 := by
        rw [lws, List.length_eq_zero_iff, List.length_eq_zero_iff]
        constructor
        · rintro rfl; rfl
        · intro h
          cases ws with
          | nil => rfl
          | cons z t => have := mem_uniq.mpr (List.mem_cons_self : z ∈ z :: t); rw [h] at this; cases this
      rw [bGt_d, bGt_d]
      by_cases c : (strsP ws).length = 0
      · rw [c, this.mp c]
      · have c2 : (uniq ws).length ≠ 0 := fun h => c (this.mpr h)
        rw [decide_eq_true (by omega), decide_eq_true (by omega)]
    rw [e]
    exact bool_deeds
  have b2 : boolF "Deeds" F_Deeds_bool [.fz (deedsP [])] = some ([.no], .ok (.fz (.bl false))) := by
    have q := bool_deeds (us := [])
    rw [show bGt (([] : List Str).length : Int) 0 = false from (bGt_d _ _).trans (decide_eq_false (by simp))] at q
    exact q
  have f1 := fun b => flag15 b
  obtain ⟨z, az, mz⟩ := at_of (xs := strsP zs) (n := n) (by omega) (r := 0) (by decide) (by omega)
  obtain ⟨z, zm, rfl⟩ := List.mem_map.mp mz
  have zn := hz z zm
  have za : pAdd (.str z) (.str "z") = some (.fz (.str (z ++ "z"))) := by
    unfold pAdd
    dsimp only
    exact if_pos (by rw [sz]; have := zn.2.1; have : ("z" : Str).length = 1 := rfl; omega)
  have zc : pSl (.str z) (some 1) none = some (.fz (.str (cutS z (some 1) none))) := by
    unfold pSl
    dsimp only
    exact if_pos (by rw [sz]; have := zn.2.1; omega)
  obtain ⟨c8, l1⟩ := word_loop (ws := ws) (us := us) (zs ++ [z ++ "z", cutS z (some 1) none, "abcabcabcabcabc"]) (.fz (.scr ns)) (.ow x4) (.fz (.int r)) (.fz (.lst (strsP zs)))
  rw [List.map_append] at l1
  obtain ⟨c9, c10, l2⟩ := odd_loop hwu (.fz (.scr ns)) (.ow x4) (.fz (.int r)) (.fz (.lst (strsP zs))) (.fz (.lst (strsP ws))) (.ow (.lst (strsP us))) (.fz (deedsP (uniq us))) c8 .no .no
  have dp1 := deep15 (.str z)
  have dp2 := deep15 (.int 0)
  have g1 := in_of (us := uniq ws) (contains_no (x := nest15 (.str z) 450) rfl)
  have g2 := deeds_else (us := uniq ws) (x := nest15 (.int 0) 450) rfl
  have k2 : eqOk "Deeds" (deedsP (uniq ws)) (nest15 (.int 0) 450) = true := by show (decide ((Str.ofString "Deeds") = (Str.ofString "Deeds")) && _) = true; rw [decide_eq_true rfl] <;> rfl
  have k3 : eqOk "Deeds" (deedsP (uniq ws)) (deedsP (uniq us)) = true := by show (decide ((Str.ofString "Deeds") = (Str.ofString "Deeds")) && _) = true; rw [decide_eq_true rfl] <;> rfl
  generalize nest15 (.str z) 450 = A1 at dp1 g1
  generalize nest15 (.int 0) 450 = A2 at dp2 g2 k2
  have l3 := fun (s0 s1 s2 s3 s4 s6 s7 s9 s10 s11 s12 : SV) => lies_loop (ws := ws) (us := us) (by omega) s0 s1 s2 s3 s4 s6 s7 s9 s10 s11 s12
  have ly := lies15 (ws := ws) (us := us)
  have i1 := within_eq (us := uniq ws) (words_deeds (uniq us))
  have i2 := within_eq (us := uniq ws) (words_row hu (by omega) (v := .lst (strsP us)) (.inl rfl))
  have i3 := within_eq (us := []) (words_deeds (uniq us))
  have i4 := within_eq (us := uniq ws) (words_row hw (by omega) (v := .tup (strsP ws)) (.inr rfl))
  rw [decide_eq_true (show ∀ z ∈ ([] : List Str), z ∈ uniq us from fun z h => by cases h)] at i3
  rw [decide_eq_true (show ∀ z ∈ uniq ws, z ∈ uniq ws from fun z h => h)] at i4
  have q1 := deeds_eq2 hwu huu
  rw [← same_sets] at q1
  have q2 := ne_of (us := uniq ws) (x := deedsP (uniq us)) (by rfl) q1
  rw [← ly] at i1 i2
  have el := else15 (ws := ws) (zs := zs) hw (by omega) az
  unfold deedsP at m1 m2 m3 m4 n1 n2 b1 b2 l1 l2 g1 g2 k2 k3 i1 i2 i3 i4 q1 q2 el
  (refine rSeq <| rAsg <| rCall <| rCons <| rL rfl <| kCons1 <| rL rfl <| kCons2 <| kCall (p_ (yBO rfl s4_) pN) m1 (bA rfl) <| kAsg (gV rfl s6_) <| rSeq <| rAsg <| rCall <| rCons <| rCB <| rCons <| rL rfl <| kCons1 <| rL rfl <| kCons2 <| kCB rfl rfl <| kCons1 <| rL rfl <| kCons2 <| kCall (p_ yV pN) m2 (bA rfl) <| kAsg (gV rfl s7_) <| rSeq <| rIf <| rNot <| rTru <| ?_; refine rCall <| rCons <| rTup <| rCons <| rCall <| rCons <| rL rfl <| kCons1 <| rL rfl <| kCons2 <| kCall (p_ (yBI rfl s6_) pN) n1 (bA rfl) <| kCons1 <| rCons <| rCall <| rCons <| rL rfl <| kCons1 <| rL rfl <| kCons2 <| kCall (p_ (yBI rfl s7_) pN) n2 (bA rfl) <| kCons1 <| rL rfl <| kCons2 <| kCons2 <| kTup (z_ yV (z_ yV zN)) rfl <| kCons1 <| rCons <| rTup <| rCons <| rCB <| ?_; refine rCons <| rCB <| rCons <| rL rfl <| kCons1 <| rL rfl <| kCons2 <| kCB rfl s1 <| kCons1 <| rL rfl <| kCons2 <| kCB rfl s3 <| kCons1 <| rCons <| rCB <| rCons <| rCB <| rCons <| rL rfl <| kCons1 <| rL rfl <| kCons2 <| kCB rfl s4 <| kCons1 <| rL rfl <| kCons2 <| kCB rfl s6 <| kCons1 <| rL rfl <| kCons2 <| ?_; refine kCons2 <| kTup (z_ yV (z_ yV zN)) rfl <| kCons1 <| rL rfl <| kCons2 <| kCons2 <| kCall (p_ yV (p_ yV pN)) sm (bA rfl) <| kTru rfl rfl <| kNotT rfl <| kIfF rfl <| rL rfl <| rSeq <| rIf <| rOr <| rNot <| rTru <| rCall <| rCons <| rCall <| rCons <| rL rfl <| kCons1 <| rL rfl <| kCons2 <| kCall (p_ yV pN) b1 (bA rfl) <| kCons1 <| rCons <| rOp <| rCB <| rCons <| ?_; refine rL rfl <| kCons1 <| rL rfl <| kCons2 <| kCB rfl rfl <| kOp1 <| rL rfl <| kOp2 rfl rfl rfl <| kCons1 <| rL rfl <| kCons2 <| kCons2 <| kCall (p_ yV (p_ yV pN)) (f1 _) (bA rfl) <| kTru rfl rfl <| kNotT rfl <| kOrF rfl <| rNot <| rTru <| rCall <| rCons <| rCall <| rCons <| rCall <| rCons <| rTup <| rL rfl <| kTup zN rfl <| kCons1 <| rL rfl <| kCons2 <| ?_; refine kCall (p_ yV pN) m3 (bA rfl) <| kCons1 <| rL rfl <| kCons2 <| kCall (p_ yI pN) b2 (bA rfl) <| kCons1 <| rCons <| rL rfl <| kCons1 <| rL rfl <| kCons2 <| kCons2 <| kCall (p_ yV (p_ yV pN)) (f1 _) (bA rfl) <| kTru rfl rfl <| kNotT rfl <| kIfF rfl <| rL rfl <| rSeq <| rFor <| riSeq <| rOp <| rL rfl <| kOp1 <| rLst <| rCons <| rOp <| rOp <| rL rfl <| kOp1 <| rL rfl <| ?_; refine kOp2 rfl rfl (ixL az) <| kOp1 <| rL rfl <| kOp2 rfl rfl za <| kCons1 <| rCons <| rSl <| rOp <| rL rfl <| kOp1 <| rL rfl <| kOp2 rfl rfl (ixL az) <| kSl1 <| rPart <| rL rfl <| kPart rfl <| kSl2 <| rPart0 <| kSl3 rfl zc <| kCons1 <| rCons <| rL rfl <| kCons1 <| rL rfl <| kCons2 <| kCons2 <| kCons2 <| kLst (z_ yV (z_ yV (z_ yV zN))) rfl <| kOp2 rfl rfl (catL (szLe (by (try simp only [List.length_map, List.length_append, List.length_cons, List.length_nil, List.length_range]); omega))) <| kiSeq yO rfl <| ?_; refine kFor <| rL l1 <| rSeq <| rFor <| riRng1 <| rCons <| rL rfl <| kCons1 <| rL rfl <| kCons2 <| kiRng1 rfl (by omega) (by omega) <| kFor <| rL l2 <| rSeq <| rIf <| rOr <| rNot <| rTru <| rCall <| rCons <| rCall <| rCons <| rCall <| rCons <| rOp <| rL rfl <| kOp1 <| rL rfl <| kOp2 rfl rfl (ixL az) <| kCons1 <| ?_; refine rL rfl <| kCons2 <| kCall (p_ yV pN) dp1 (bA rfl) <| kCons1 <| rCons <| rL rfl <| kCons1 <| rL rfl <| kCons2 <| kCons2 <| kCall (p_ yV (p_ yV pN)) g1 (bA rfl) <| kCons1 <| rCons <| rL rfl <| kCons1 <| rL rfl <| kCons2 <| kCons2 <| kCall (p_ yV (p_ yV pN)) (f1 _) (bA rfl) <| kTru rfl rfl <| kNotT rfl <| kOrF rfl <| rNot <| rTru <| rCall <| rCons <| rEqW <| rCons <| rL rfl <| kCons1 <| ?_; refine rCons <| rCall <| rCons <| rL rfl <| kCons1 <| rL rfl <| kCons2 <| kCall (p_ yV pN) dp2 (bA rfl) <| kCons1 <| rL rfl <| kCons2 <| kCons2 <| kEqO (z_ yV (z_ yV zN)) k2 g2 <| kCons1 <| rCons <| rL rfl <| kCons1 <| rL rfl <| kCons2 <| kCons2 <| kCall (p_ yV (p_ yV pN)) (f1 _) (bA rfl) <| kTru rfl rfl <| kNotT rfl <| kIfF rfl <| rL rfl <| rSeq <| rAsg <| rOp <| rCB <| rCons <| ?_; refine rLcF rfl <| rLc <| riSeq <| rL rfl <| kiSeq yV rfl <| kLc rfl (wC wN s8_) <| rL (l3 _ _ _ _ _ _ _ _ _ _ _) <| kLcE (rC rfl s8_ rN) <| kCons1 <| rL rfl <| kCons2 <| kCB rfl rfl <| kOp1 <| rL rfl <| kOp2 rfl rfl rfl <| kAsg (gV rfl s11_) <| rSeq <| rIf <| rOr <| rNot <| rTru <| rCall <| rCons <| rMeth <| rL rfl <| kMeth1 rfl <| rCons <| rL rfl <| kCons1 <| rL rfl <| ?_; refine kCons2 <| kMeth2 (p_ yV (p_ yV pN)) i1 (bA rfl) <| kCons1 <| rCons <| rL rfl <| kCons1 <| rL rfl <| kCons2 <| kCons2 <| kCall (p_ yV (p_ yV pN)) (f1 _) (bA rfl) <| kTru rfl rfl <| kNotT rfl <| kOrF rfl <| rNot <| rTru <| rCall <| rCons <| rMeth <| rL rfl <| kMeth1 rfl <| rCons <| rCB <| rCons <| rL rfl <| kCons1 <| rL rfl <| kCons2 <| kCB rfl rfl <| kCons1 <| rL rfl <| ?_; refine kCons2 <| kMeth2 (p_ yV (p_ yO pN)) i2 (bA rfl) <| kCons1 <| rCons <| rL rfl <| kCons1 <| rL rfl <| kCons2 <| kCons2 <| kCall (p_ yV (p_ yV pN)) (f1 _) (bA rfl) <| kTru rfl rfl <| kNotT rfl <| kIfF rfl <| rL rfl <| rSeq <| rIf <| rOr <| rNot <| rTru <| rCall <| rCons <| rMeth <| rCall <| rCons <| rLst <| rL rfl <| kLst zN rfl <| kCons1 <| rL rfl <| kCons2 <| ?_; refine kCall (p_ yO pN) m4 (bA rfl) <| kMeth1 rfl <| rCons <| rL rfl <| kCons1 <| rL rfl <| kCons2 <| kMeth2 (p_ yI (p_ yV pN)) i3 (bA rfl) <| kCons1 <| rCons <| rL rfl <| kCons1 <| rL rfl <| kCons2 <| kCons2 <| kCall (p_ yV (p_ yV pN)) (f1 _) (bA rfl) <| kTru rfl rfl <| kNotT rfl <| kOrF rfl <| rNot <| rTru <| rCall <| rCons <| rMeth <| rL rfl <| kMeth1 rfl <| rCons <| rCB <| rCons <| rL rfl <| ?_; refine kCons1 <| rL rfl <| kCons2 <| kCB rfl rfl <| kCons1 <| rL rfl <| kCons2 <| kMeth2 (p_ yV (p_ yV pN)) i4 (bA rfl) <| kCons1 <| rCons <| rL rfl <| kCons1 <| rL rfl <| kCons2 <| kCons2 <| kCall (p_ yV (p_ yV pN)) (f1 _) (bA rfl) <| kTru rfl rfl <| kNotT rfl <| kIfF rfl <| rL rfl <| rSeq <| rAsg <| rOp <| rCB <| rCons <| rL rfl <| kCons1 <| rL rfl <| kCons2 <| kCB rfl s1 <| ?_; refine kOp1 <| rCB <| rCons <| rL rfl <| kCons1 <| rL rfl <| kCons2 <| kCB rfl s4 <| kOp2 rfl rfl rfl <| kAsg (gV rfl s12_) <| rSeq <| rIf <| rOr <| rNot <| rTru <| rCall <| rCons <| rEqW <| rCons <| rL rfl <| kCons1 <| rCons <| rL rfl <| kCons1 <| rL rfl <| kCons2 <| kCons2 <| kEqO (z_ yV (z_ yV zN)) rfl q1 <| kCons1 <| rCons <| ?_; refine rL rfl <| kCons1 <| rL rfl <| kCons2 <| kCons2 <| kCall (p_ yV (p_ yV pN)) (f1 _) (bA rfl) <| kTru rfl rfl <| kNotT rfl <| kOrF rfl <| rNot <| rTru <| rCall <| rCons <| rCall <| rCons <| rL rfl <| kCons1 <| rCons <| rL rfl <| kCons1 <| rL rfl <| kCons2 <| kCons2 <| kCall (p_ yV (p_ yV pN)) q2 (bA rfl) <| kCons1 <| rCons <| rNotV <| rTest <| rL rfl <| kTest rfl <| ?_; refine kNotV <| kCons1 <| rL rfl <| kCons2 <| kCons2 <| kCall (p_ yV (p_ yV pN)) (f1 _) (bA rfl) <| kTru rfl rfl <| kNotT rfl <| kIfF rfl <| rL rfl <| rRet <| rCall <| rCons <| rL rfl <| kCons1 <| rCons <| rL rfl <| kCons1 <| rCons <| rL rfl <| kCons1 <| rL rfl <| kCons2 <| kCons2 <| kCons2 <| kCall (p_ yV (p_ yV (p_ yV pN))) el (bA rfl) <| kRet tV <| ?_)
  rfl
end Sd.Pu
namespace Sd
open PySem PySem.Spec PyProof.Rows L2
def obsL (as : List Addr) (fa : List He.Fa) (fn : List He.DefD) (ex : PySem.W.Frag → Bool) (g : Addr → Option Obj) : He.AlD × Bool := (He.obsD fa fn (He.frG g as), ex (He.frG g as))
open HandSHeadRun PySem.W in
theorem run_of {r : PySem.W.OpenRow} {q : Program} {H : PySem.W.Hook} {ob : PySem.W.SharedT → H.α} {M : Nat} {loose : List Str} {w : World}
    (h1 : ∀ os : OsState, (endF (stepQ (denQ tabQ) r.prog w) M r.prog w os).map (fun s => looksF r.prog (boot_heap w.params) s.abs) = some true)
    (h2 : ∀ os : OsState, (endF (stepQ (denQ tabQ) r.prog w) M r.prog w os).map (fun s => seenQ q loose (importedModules r.prog.main.body) (fun s => xlAt q [] s && recOk r.toRowW.records s) s.abs) = some (openGood q loose))
    (h3 : ∀ os : OsState, (endF (stepQ (denQ tabQ) r.prog w) M r.prog w os).map ob = some (H.val w)) : RunEq r q H ob M loose w := fun os => by
  obtain ⟨s, e, a1⟩ := Option.map_eq_some_iff.mp (h1 os)
  have a2 := h2 os
  have a3 := h3 os
  rw [e] at a2 a3
  rw [e]
  have b2 := Option.some.inj a2
  have b3 := Option.some.inj a3
  exact congrArg some (Prod.ext a1 (Prod.ext b2 b3))
end Sd
namespace Sd
open PySem PySem.Spec PyProof.Rows L2
def partA (as : List Addr) (fa : List He.Fa) (ex : PySem.W.Frag → Bool) (g : Addr → Option Obj) : Bool × Bool := (fa.all fun f => f.ok (He.frG g as), ex (He.frG g as))
def partF (as : List Addr) (fn : List He.DefD) (g : Addr → Option Obj) : He.AlD := (fn.all fun d => d.ok (He.frG g as), fn.map fun d => He.fnW (He.frG g as) d.at_)
theorem obs_of {E : Option PySem.W.SharedT} {as : List Addr} {fa : List He.Fa} {fn1 fn2 : List He.DefD} {ex : PySem.W.Frag → Bool}
    (h1 : E.map (fun s => partA as fa ex (HandSHeadRun.getT s)) = some (true, true))
    (h2 : E.map (fun s => partF as fn1 (HandSHeadRun.getT s)) = some (He.valD fn1))
    (h3 : E.map (fun s => partF as fn2 (HandSHeadRun.getT s)) = some (He.valD fn2)) :
    E.map (fun s => obsL as fa (fn1 ++ fn2) ex (HandSHeadRun.getT s)) = some (He.valD (fn1 ++ fn2), true) := by
  obtain ⟨s, e, a1⟩ := Option.map_eq_some_iff.mp h1
  rw [e] at h2 h3 ⊢
  have b2 := Option.some.inj h2
  have b3 := Option.some.inj h3
  have c1 := congrArg Prod.fst a1
  have c2 := congrArg Prod.snd a1
  have d1 := congrArg Prod.fst b2
  have d2 := congrArg Prod.snd b2
  have f1 := congrArg Prod.fst b3
  have f2 := congrArg Prod.snd b3
  refine congrArg some ?_
  have c1 : (fa.all fun f => f.ok (He.frG (HandSHeadRun.getT s) as)) = true := c1
  have c2 : ex (He.frG (HandSHeadRun.getT s) as) = true := c2
  have d1 : (fn1.all fun d => d.ok (He.frG (HandSHeadRun.getT s) as)) = true := d1
  have d2 : (fn1.map fun d => He.fnW (He.frG (HandSHeadRun.getT s) as) d.at_) = fn1.map He.DefD.val := d2
  have f1 : (fn2.all fun d => d.ok (He.frG (HandSHeadRun.getT s) as)) = true := f1
  have f2 : (fn2.map fun d => He.fnW (He.frG (HandSHeadRun.getT s) as) d.at_) = fn2.map He.DefD.val := f2
  show (((fa.all fun f => f.ok (He.frG (HandSHeadRun.getT s) as)) && (fn1 ++ fn2).all fun d => d.ok (He.frG (HandSHeadRun.getT s) as), (fn1 ++ fn2).map fun d => He.fnW (He.frG (HandSHeadRun.getT s) as) d.at_), ex (He.frG (HandSHeadRun.getT s) as)) = ((true, (fn1 ++ fn2).map He.DefD.val), true)
  rw [c1, c2, List.all_append, d1, f1, List.map_append, List.map_append, d2, f2]
  rfl
end Sd
namespace Sd
open PySem PySem.Spec PyProof.Rows L2
def emptyTab : Option Obj → Bool
  | some ⟨.none, none, .fields ⟨[]⟩, ⟨[]⟩⟩ => true
  | _ => false
theorem emptyTab_ok {o : Option Obj} (h : emptyTab o = true) : o = some { cls := .none, data := .fields #[] } := by
  unfold emptyTab at h
  split at h
  · rfl
  · cases h
def headB (o : Option Obj) (c P : Addr) : Bool := match o with
  | some ⟨.type T, _, .fields vs, _⟩ => T == "code" && (match (vs[11]? : Option Value) with | some (.ref q) => q == P | _ => false) && (match (vs.getD 11 .none : Value) with | .ref q => q == P | _ => false) && (match (vs.getD 18 .none : Value) with | .str _ _ => true | _ => false) && (match (vs.getD 7 .none : Value) with | .int _ _ => true | _ => false) && (match (vs.getD 9 .none : Value) with | .bool _ => true | _ => false) && (match (vs.getD 10 .none : Value) with | .int _ _ => true | _ => false) && !(c == P)
  | _ => false
theorem headB_ok {h : Heap} {o : Obj} {c P : Addr} (e : h.get? c = some o) (k : headB (some o) c P = true) : PySem.W.CodeHd h c P := by
  unfold headB at k
  split at k
  · rename_i T dx vs sl q
    cases q
    simp only [Bool.and_eq_true] at k
    obtain ⟨⟨⟨⟨⟨⟨⟨k1, k2⟩, k3⟩, k4⟩, k5⟩, k6⟩, k7⟩, k8⟩ := k
    have k1 := eq_of_beq k1
    subst k1
    split at k2
    · rename_i q1 e1
      have := eq_of_beq k2; subst this
      split at k3
      · rename_i q2 e2
        have := eq_of_beq k3; subst this
        split at k4
        · rename_i f1 f2 e4
          split at k5
          · rename_i g1 g2 e5
            split at k6
            · rename_i b1 e6
              split at k7
              · rename_i t1 t2 e7
                refine ⟨_, vs, f1, f2, g1, g2, b1, t1, t2, e, rfl, rfl, e1, e2, e4, e5, e6, e7, ?_⟩
                intro z
                rw [z] at k8
                simp at k8
              · cases k7
            · cases k6
          · cases k5
        · cases k4
      · cases k3
    · cases k2
  · cases k
def tbB (K : PySem.W.Frag) (g : Addr → Option Obj) : Bool := (csK K).all (fun p => emptyTab (g p.2) && ((K.lookup p.2).isNone && headB (K.lookup p.1) p.1 p.2)) && decide (((csK K).map (·.2)).Nodup)
structure TbH (K : PySem.W.Frag) (h : Heap) : Prop where
  nd : ((csK K).map (·.2)).Nodup
  em : ∀ p ∈ csK K, h.get? p.2 = some { cls := .none, data := .fields #[] }
  nK : ∀ p ∈ csK K, K.lookup p.2 = none
  hd : ∀ p ∈ csK K, PySem.W.CodeHd h p.1 p.2
theorem tbH_of {K : PySem.W.Frag} {h : Heap} (KX : K.In h) (e : tbB K h.get? = true) : TbH K h := by
  obtain ⟨h1, h2⟩ := Bool.and_eq_true_iff.mp e
  have k := List.all_eq_true.mp h1
  have key : ∀ p ∈ csK K, emptyTab (h.get? p.2) = true ∧ (K.lookup p.2).isNone = true ∧ headB (K.lookup p.1) p.1 p.2 = true := fun p hp => by
    have := k p hp
    rw [Bool.and_eq_true, Bool.and_eq_true] at this
    exact this
  refine ⟨of_decide_eq_true h2, fun p hp => emptyTab_ok (key p hp).1, fun p hp => Option.isNone_iff_eq_none.mp (key p hp).2.1, fun p hp => ?_⟩
  have z := (key p hp).2.2
  cases q : K.lookup p.1 with
  | none => rw [q] at z; cases z
  | some o => rw [q] at z; exact headB_ok (KX _ _ q) z
theorem TbH.keeps {K : PySem.W.Frag} {h h' : Heap} (t : TbH K h) (k : ∀ b o, h.get? b = some o → h'.get? b = some o) : TbH K h' := ⟨t.nd, fun p hp => k _ _ (t.em p hp), t.nK, fun p hp => (t.hd p hp).keeps k⟩
def obsT (as : List Addr) (fa : List He.Fa) (fn : List He.DefD) (ex : PySem.W.Frag → Bool) (g : Addr → Option Obj) : (He.AlD × Bool) × Bool := (obsL as fa fn ex g, tbB (He.frG g as) g)
def hookT (as : List Addr) (fa : List He.Fa) (fn : List He.DefD) (ex : PySem.W.Frag → Bool) : PySem.W.Hook where
  α := (He.AlD × Bool) × Bool
  obs := fun s => obsT as fa fn ex s.heap.get?
  val := fun _ => ((He.valD fn, true), true)
  says := fun _ h => ∃ K : PySem.W.Frag, K.In h ∧ SaysE fa fn ex K ∧ TbH K h
  of := fun _ s e => ⟨_, He.frG_in, ⟨congrArg (fun z : (He.AlD × Bool) × Bool => z.1.1) e, congrArg (fun z : (He.AlD × Bool) × Bool => z.1.2) e⟩, tbH_of He.frG_in (congrArg (fun z : (He.AlD × Bool) × Bool => z.2) e)⟩
  keeps := fun _ _ _ ⟨K, hK, c, t⟩ k => ⟨K, PySem.W.Frag.In.keeps hK k, c, t.keeps k⟩
theorem obsT_eq {as : List Addr} {fa : List He.Fa} {fn : List He.DefD} {ex : PySem.W.Frag → Bool} {g : Addr → Option Obj} {s : Shared} (h : ∀ a, g a = s.heap.get? a) : obsT as fa fn ex g = (hookT as fa fn ex).obs s := by
  have e : g = s.heap.get? := funext h
  rw [e]; rfl
theorem obsT_of {E : Option PySem.W.SharedT} {as : List Addr} {fa : List He.Fa} {fn : List He.DefD} {ex : PySem.W.Frag → Bool} {v : He.AlD × Bool} (h1 : E.map (fun s => obsL as fa fn ex (HandSHeadRun.getT s)) = some v)
    (h2 : E.map (fun s => tbB (He.frG (HandSHeadRun.getT s) as) (HandSHeadRun.getT s)) = some true) : E.map (fun s => obsT as fa fn ex (HandSHeadRun.getT s)) = some (v, true) := by
  obtain ⟨s, e, a1⟩ := Option.map_eq_some_iff.mp h1
  rw [e] at h2 ⊢
  have b2 := Option.some.inj h2
  exact congrArg some (Prod.ext a1 b2)
theorem walkT {l : PySem.W.OpenLaw} {n k : Nat} {q : Program} {loose : List Str} {XP : (Str → Option Value) → Heap → Prop} {YP : World → Heap → Prop} {d : DefRec} {x : Str}
    (hn : l.most = some n) (hn2 : n ≤ sizeLine) (hdf : d.params.defaults = []) (hr : Room k callerA)
    (F : ∀ (w : World) (mg : Str → Option Value) (fa : Addr) (h : Heap), YP w h → h.Ns mainGlobals mg → mg d.name = some (.ref fa) →
      ∃ (K : PySem.W.Frag) (fd : FuncData) (sp : Sp), K.In h ∧ TbH K h ∧ (∀ (s : Shared) (u : Value), BindsTo s fd ⟨[u], []⟩ [(x, u)]) ∧
        (∀ (H : Hp) (a : Addr) (ns : List Int), ns.length ≤ n → (∀ i ∈ ns, Builtin.Int.intBits i ≤ 1048576) → (∀ p ∈ csK K, H p.2 = some (.tbl #[])) → SqL K H a (ns.map V.int) → sp [.ref a] H (fun v _ => v = .bl true) fun _ _ _ => False) ∧
        ∀ base : Heap, K.In base → base.Ns mainGlobals mg → TbBs K base mg → FnOk l.prog w K mg base (L2.CX l.prog w) k fa fd [x] sp) :
    PySem.W.WalkO q loose XP YP l.row.toRowW d [] (fun f vs => PySem.call f vs) := by
  refine Att.attach_callB hn hdf fun w s₀ s₁ mg mb fa o pm cd doc a vs ns G Y ho hd hcd hmg hobj hints hlen hbits hg => ?_
  obtain ⟨K, fd, sp, KX, tb, hb, hsp, hF⟩ := F w mg fa _ Y G.T.g hmg
  refine LamX.law_callTs (cs := csK K) KX G.T.g G.T.b G.T.builtins G.T.nolimit hg tb.em tb.nK tb.hd G.T.bmain hobj hints (Nat.le_trans hlen hn2) hr hF hb (fun H hT hS => hsp H a ns hlen hbits hT hS) fun H e s' z => ?_
  obtain ⟨_, _, _, _, _, _, _, _, _, _, _, _, z⟩ := z
  exact z
end Sd
namespace Sd
open PySem PySem.Spec PyProof.Rows L2
theorem tb0_of {g : Ga} {h : Heap} {H : Hp} (t : TbH g.K h) (hT : ∀ p ∈ csK g.K, H p.2 = some (.tbl #[])) : Tb0 g H := ⟨by
  unfold Ga.tA Ga.tabs
  rw [← csK_tabs]
  exact t.nd, fun a ha => by
  unfold Ga.tA Ga.tabs at ha
  rw [← csK_tabs] at ha
  obtain ⟨p, hp, rfl⟩ := List.mem_map.mp ha
  exact hT p hp⟩
end Sd
namespace Sd
abbrev sp_k15_law (g : Ga) : L2.Sp := PSp g 1 Sd.Pu.F_k15_law
end Sd
namespace K15R
open PySem PySem.Spec PyProof.Rows L2 Sd
def top (i : Nat) : Stmt := PySem.Challenge.pw_surelydone_k15_deeds_asked.main.body.getD i (.Pass ⟨0, 0, 0, 0⟩)
abbrev s_law_cell : Stmt := top 11
abbrev N_law_cell : List Str := ["_law_script", "_law_k"]
abbrev P_law_cell : List Str := ["_law_script", "_law_k"]
theorem sc_law_cell : FnScope N_law_cell P_law_cell (defScope s_law_cell) := ⟨rfl, rfl, rfl, by decide +kernel, rfl, by decide +kernel, by decide +kernel⟩
def d_law_cell : He.DefD := ⟨("_law_cell", none), "_law_cell", "_law_cell", defArgs s_law_cell, defBody s_law_cell, defScope s_law_cell, [], []⟩
abbrev s_law_pool : Stmt := top 12
abbrev N_law_pool : List Str := ["_law_cell_here", "_law_rest"]
abbrev P_law_pool : List Str := ["_law_cell_here"]
theorem sc_law_pool : FnScope N_law_pool P_law_pool (defScope s_law_pool) := ⟨rfl, rfl, rfl, by decide +kernel, rfl, by decide +kernel, by decide +kernel⟩
def d_law_pool : He.DefD := ⟨("_law_pool", none), "_law_pool", "_law_pool", defArgs s_law_pool, defBody s_law_pool, defScope s_law_pool, [], []⟩
abbrev s_law_draw : Stmt := top 13
abbrev N_law_draw : List Str := ["_law_pool_here", "_law_many", "_law_digit", "_law_number"]
abbrev P_law_draw : List Str := ["_law_pool_here", "_law_many"]
theorem sc_law_draw : FnScope N_law_draw P_law_draw (defScope s_law_draw) := ⟨rfl, rfl, rfl, by decide +kernel, rfl, by decide +kernel, by decide +kernel⟩
def d_law_draw : He.DefD := ⟨("_law_draw", none), "_law_draw", "_law_draw", defArgs s_law_draw, defBody s_law_draw, defScope s_law_draw, [], []⟩
abbrev s_law_name : Stmt := top 14
abbrev N_law_name : List Str := ["_law_number", "_law_letters", "_law_left"]
abbrev P_law_name : List Str := ["_law_number"]
theorem sc_law_name : FnScope N_law_name P_law_name (defScope s_law_name) := ⟨rfl, rfl, rfl, by decide +kernel, rfl, by decide +kernel, by decide +kernel⟩
def d_law_name : He.DefD := ⟨("_law_name", none), "_law_name", "_law_name", defArgs s_law_name, defBody s_law_name, defScope s_law_name, [], []⟩
abbrev s_law_names : Stmt := top 15
abbrev N_law_names : List Str := ["_law_pool_here", "_law_many", "_law_numbers", "_law_k", "_law_number", "_law_again"]
abbrev P_law_names : List Str := ["_law_pool_here", "_law_many"]
theorem sc_law_names : FnScope N_law_names P_law_names (defScope s_law_names) := ⟨rfl, rfl, rfl, by decide +kernel, rfl, by decide +kernel, by decide +kernel⟩
def d_law_names : He.DefD := ⟨("_law_names", none), "_law_names", "_law_names", defArgs s_law_names, defBody s_law_names, defScope s_law_names, [], []⟩
abbrev s_k15_pick : Stmt := top 17
abbrev N_k15_pick : List Str := ["_law_pool_here", "_law_names_here", "_law_k"]
abbrev P_k15_pick : List Str := ["_law_pool_here", "_law_names_here"]
theorem sc_k15_pick : FnScope N_k15_pick P_k15_pick (defScope s_k15_pick) := ⟨rfl, rfl, rfl, by decide +kernel, rfl, by decide +kernel, by decide +kernel⟩
def d_k15_pick : He.DefD := ⟨("_law_pick", none), "_law_pick", "_law_pick", defArgs s_k15_pick, defBody s_k15_pick, defScope s_k15_pick, [], []⟩
abbrev s_Deeds_names : Stmt := inClass (top 9) 1
abbrev N_Deeds_names : List Str := ["self"]
abbrev P_Deeds_names : List Str := ["self"]
theorem sc_Deeds_names : FnScope N_Deeds_names P_Deeds_names (defScope s_Deeds_names) := ⟨rfl, rfl, rfl, by decide +kernel, rfl, by decide +kernel, by decide +kernel⟩
def d_Deeds_names : He.DefD := ⟨("Deeds", some "names"), "names", "Deeds.names", defArgs s_Deeds_names, defBody s_Deeds_names, defScope s_Deeds_names, [], []⟩
abbrev s_is_row : Stmt := top 3
abbrev N_is_row : List Str := ["thing"]
abbrev P_is_row : List Str := ["thing"]
theorem sc_is_row : FnScope N_is_row P_is_row (defScope s_is_row) := ⟨rfl, rfl, rfl, by decide +kernel, rfl, by decide +kernel, by decide +kernel⟩
def d_is_row : He.DefD := ⟨("is_row", none), "is_row", "is_row", defArgs s_is_row, defBody s_is_row, defScope s_is_row, [], []⟩
abbrev s_BadWords_init : Stmt := inClass (top 6) 0
abbrev N_BadWords_init : List Str := ["self", "value"]
abbrev P_BadWords_init : List Str := ["self", "value"]
theorem sc_BadWords_init : FnScope N_BadWords_init P_BadWords_init (defScope s_BadWords_init) := ⟨rfl, rfl, rfl, by decide +kernel, rfl, by decide +kernel, by decide +kernel⟩
def d_BadWords_init : He.DefD := ⟨("BadWords", some "__init__"), "__init__", "BadWords.__init__", defArgs s_BadWords_init, defBody s_BadWords_init, defScope s_BadWords_init, [], []⟩
abbrev s_is_name : Stmt := top 2
abbrev N_is_name : List Str := ["thing", "letter"]
abbrev P_is_name : List Str := ["thing"]
theorem sc_is_name : FnScope N_is_name P_is_name (defScope s_is_name) := ⟨rfl, rfl, rfl, by decide +kernel, rfl, by decide +kernel, by decide +kernel⟩
def d_is_name : He.DefD := ⟨("is_name", none), "is_name", "is_name", defArgs s_is_name, defBody s_is_name, defScope s_is_name, [], []⟩
abbrev s_words_of_row : Stmt := top 8
abbrev N_words_of_row : List Str := ["thing", "word"]
abbrev P_words_of_row : List Str := ["thing"]
theorem sc_words_of_row : FnScope N_words_of_row P_words_of_row (defScope s_words_of_row) := ⟨rfl, rfl, rfl, by decide +kernel, rfl, by decide +kernel, by decide +kernel⟩
def d_words_of_row : He.DefD := ⟨("words_of_row", none), "words_of_row", "words_of_row", defArgs s_words_of_row, defBody s_words_of_row, defScope s_words_of_row, [], []⟩
abbrev s_Deeds_init : Stmt := inClass (top 9) 0
abbrev N_Deeds_init : List Str := ["self", "words"]
abbrev P_Deeds_init : List Str := ["self", "words"]
theorem sc_Deeds_init : FnScope N_Deeds_init P_Deeds_init (defScope s_Deeds_init) := ⟨rfl, rfl, rfl, by decide +kernel, rfl, by decide +kernel, by decide +kernel⟩
def d_Deeds_init : He.DefD := ⟨("Deeds", some "__init__"), "__init__", "Deeds.__init__", defArgs s_Deeds_init, defBody s_Deeds_init, defScope s_Deeds_init, [.adr (He.dflAt ("Deeds", some "__init__") 0)], []⟩
abbrev s_Deeds_len : Stmt := inClass (top 9) 4
abbrev N_Deeds_len : List Str := ["self"]
abbrev P_Deeds_len : List Str := ["self"]
theorem sc_Deeds_len : FnScope N_Deeds_len P_Deeds_len (defScope s_Deeds_len) := ⟨rfl, rfl, rfl, by decide +kernel, rfl, by decide +kernel, by decide +kernel⟩
def d_Deeds_len : He.DefD := ⟨("Deeds", some "__len__"), "__len__", "Deeds.__len__", defArgs s_Deeds_len, defBody s_Deeds_len, defScope s_Deeds_len, [], []⟩
abbrev s_law_same : Stmt := top 16
abbrev N_law_same : List Str := ["_law_told", "_law_due", "_law_k"]
abbrev P_law_same : List Str := ["_law_told", "_law_due"]
theorem sc_law_same : FnScope N_law_same P_law_same (defScope s_law_same) := ⟨rfl, rfl, rfl, by decide +kernel, rfl, by decide +kernel, by decide +kernel⟩
def d_law_same : He.DefD := ⟨("_law_same", none), "_law_same", "_law_same", defArgs s_law_same, defBody s_law_same, defScope s_law_same, [], []⟩
abbrev s_Deeds_bool : Stmt := inClass (top 9) 5
abbrev N_Deeds_bool : List Str := ["self"]
abbrev P_Deeds_bool : List Str := ["self"]
theorem sc_Deeds_bool : FnScope N_Deeds_bool P_Deeds_bool (defScope s_Deeds_bool) := ⟨rfl, rfl, rfl, by decide +kernel, rfl, by decide +kernel, by decide +kernel⟩
def d_Deeds_bool : He.DefD := ⟨("Deeds", some "__bool__"), "__bool__", "Deeds.__bool__", defArgs s_Deeds_bool, defBody s_Deeds_bool, defScope s_Deeds_bool, [], []⟩
abbrev s_k15_flag : Stmt := top 20
abbrev N_k15_flag : List Str := ["_law_told", "_law_due"]
abbrev P_k15_flag : List Str := ["_law_told", "_law_due"]
theorem sc_k15_flag : FnScope N_k15_flag P_k15_flag (defScope s_k15_flag) := ⟨rfl, rfl, rfl, by decide +kernel, rfl, by decide +kernel, by decide +kernel⟩
def d_k15_flag : He.DefD := ⟨("_law_flag", none), "_law_flag", "_law_flag", defArgs s_k15_flag, defBody s_k15_flag, defScope s_k15_flag, [], []⟩
abbrev s_Deeds_contains : Stmt := inClass (top 9) 6
abbrev N_Deeds_contains : List Str := ["self", "thing"]
abbrev P_Deeds_contains : List Str := ["self", "thing"]
theorem sc_Deeds_contains : FnScope N_Deeds_contains P_Deeds_contains (defScope s_Deeds_contains) := ⟨rfl, rfl, rfl, by decide +kernel, rfl, by decide +kernel, by decide +kernel⟩
def d_Deeds_contains : He.DefD := ⟨("Deeds", some "__contains__"), "__contains__", "Deeds.__contains__", defArgs s_Deeds_contains, defBody s_Deeds_contains, defScope s_Deeds_contains, [], []⟩
abbrev s_o_odd_name : Stmt := top 18
abbrev N_o_odd_name : List Str := ["_law_number", "_law_odd"]
abbrev P_o_odd_name : List Str := ["_law_number"]
theorem sc_o_odd_name : FnScope N_o_odd_name P_o_odd_name (defScope s_o_odd_name) := ⟨rfl, rfl, rfl, by decide +kernel, rfl, by decide +kernel, by decide +kernel⟩
def d_o_odd_name : He.DefD := ⟨("_law_odd_name", none), "_law_odd_name", "_law_odd_name", defArgs s_o_odd_name, defBody s_o_odd_name, defScope s_o_odd_name, [], []⟩
abbrev s_k15_deep : Stmt := top 19
abbrev N_k15_deep : List Str := ["_law_thing", "_law_k"]
abbrev P_k15_deep : List Str := ["_law_thing"]
theorem sc_k15_deep : FnScope N_k15_deep P_k15_deep (defScope s_k15_deep) := ⟨rfl, rfl, rfl, by decide +kernel, rfl, by decide +kernel, by decide +kernel⟩
def d_k15_deep : He.DefD := ⟨("_law_deep", none), "_law_deep", "_law_deep", defArgs s_k15_deep, defBody s_k15_deep, defScope s_k15_deep, [], []⟩
abbrev s_Deeds_eq : Stmt := inClass (top 9) 3
abbrev N_Deeds_eq : List Str := ["self", "other"]
abbrev P_Deeds_eq : List Str := ["self", "other"]
theorem sc_Deeds_eq : FnScope N_Deeds_eq P_Deeds_eq (defScope s_Deeds_eq) := ⟨rfl, rfl, rfl, by decide +kernel, rfl, by decide +kernel, by decide +kernel⟩
def d_Deeds_eq : He.DefD := ⟨("Deeds", some "__eq__"), "__eq__", "Deeds.__eq__", defArgs s_Deeds_eq, defBody s_Deeds_eq, defScope s_Deeds_eq, [], []⟩
abbrev s_Deeds_within : Stmt := inClass (top 9) 2
abbrev N_Deeds_within : List Str := ["self", "other", "allowed", "word"]
abbrev P_Deeds_within : List Str := ["self", "other"]
theorem sc_Deeds_within : FnScope N_Deeds_within P_Deeds_within (defScope s_Deeds_within) := ⟨rfl, rfl, rfl, by decide +kernel, rfl, by decide +kernel, by decide +kernel⟩
def d_Deeds_within : He.DefD := ⟨("Deeds", some "within"), "within", "Deeds.within", defArgs s_Deeds_within, defBody s_Deeds_within, defScope s_Deeds_within, [], []⟩
abbrev s_k15_else : Stmt := top 21
abbrev N_k15_else : List Str := ["_law_left", "_law_one", "_law_names_here", "_law_thing"]
abbrev P_k15_else : List Str := ["_law_left", "_law_one", "_law_names_here"]
theorem sc_k15_else : FnScope N_k15_else P_k15_else (defScope s_k15_else) := ⟨rfl, rfl, rfl, by decide +kernel, rfl, by decide +kernel, by decide +kernel⟩
def d_k15_else : He.DefD := ⟨("_law_equal_to_nothing_else", none), "_law_equal_to_nothing_else", "_law_equal_to_nothing_else", defArgs s_k15_else, defBody s_k15_else, defScope s_k15_else, [], []⟩
abbrev s_k15_law : Stmt := top 22
abbrev N_k15_law : List Str := ["_law_script", "_law_pool_here", "_law_turn", "_law_names_here", "_law_one", "_law_two", "_law_left", "_law_right", "_law_word", "_law_number", "_law_thing", "_law_lies", "_law_same_here"]
abbrev P_k15_law : List Str := ["_law_script"]
theorem sc_k15_law : FnScope N_k15_law P_k15_law (defScope s_k15_law) := ⟨rfl, rfl, rfl, by decide +kernel, rfl, by decide +kernel, by decide +kernel⟩
def d_k15_law : He.DefD := ⟨("law", none), "law", "law", defArgs s_k15_law, defBody s_k15_law, defScope s_k15_law, [], []⟩
def fn1 : List He.DefD := [d_law_cell, d_law_pool, d_law_draw, d_law_name, d_law_names, d_k15_pick, d_Deeds_names, d_is_row, d_BadWords_init, d_is_name, d_words_of_row, d_Deeds_init]
def fn2 : List He.DefD := [d_Deeds_len, d_law_same, d_Deeds_bool, d_k15_flag, d_Deeds_contains, d_o_odd_name, d_k15_deep, d_Deeds_eq, d_Deeds_within, d_k15_else, d_k15_law]
def fn : List He.DefD := fn1 ++ fn2
def fa : List He.Fa := [.free "len", .glo "_law_cell", .free "int", .glo "_law_pool", .glo "_law_draw", .free "range", .glo "_law_name", .glo "_law_names", .glo "_law_pick", .free "isinstance", .glo "Deeds", .free "list", .meth "Deeds" "names", .cls "Deeds", .free "tuple", .glo "is_row", .glo "BadWords", .free "str", .str "LETTERS" "abcdefghijklmnopqrstuvwxyz", .glo "is_name", .free "set", .free "sorted", .glo "words_of_row", .mkr "Deeds", .meth "Deeds" "__len__", .free "bool", .free "dict", .glo "_law_same", .meth "Deeds" "__bool__", .glo "_law_flag", .meth "Deeds" "__contains__", .glo "_law_odd_name", .glo "_law_deep", .meth "Deeds" "__eq__", .meth "Deeds" "within", .glo "_law_equal_to_nothing_else", .noat "Deeds" "kept", .glo "law"]
def ex (K : PySem.W.Frag) : Bool := kitCB K && (xB K "BadWords" "value" && (present K "Deeds" && (neCB K "Deeds" && (nfB K "Deeds" && (isB K "Deeds" && (ktB K "Deeds" && (true)))))))
structure Row (g : Ga) (mg : Str → Option Value) (base : Heap) : Prop where
  c : SaysE fa fn ex g.K
  X : g.K.In base
  G : base.Ns mainGlobals mg
  tb : TbBs g.K base mg
section
variable {g : Ga} {mg : Str → Option Value} {base : Heap}
theorem Row.len (T : Row g mg base) : mg "len" = none := He.free_ok T.X T.G (T.c.d.fact 0 rfl)
theorem Row._law_cell (T : Row g mg base) : mg "_law_cell" = some (.ref (He.ga g.K "_law_cell")) := He.glo_ok T.X T.G (T.c.d.fact 1 rfl)
theorem Row.int (T : Row g mg base) : mg "int" = none := He.free_ok T.X T.G (T.c.d.fact 2 rfl)
theorem Row._law_pool (T : Row g mg base) : mg "_law_pool" = some (.ref (He.ga g.K "_law_pool")) := He.glo_ok T.X T.G (T.c.d.fact 3 rfl)
theorem Row._law_draw (T : Row g mg base) : mg "_law_draw" = some (.ref (He.ga g.K "_law_draw")) := He.glo_ok T.X T.G (T.c.d.fact 4 rfl)
theorem Row.range (T : Row g mg base) : mg "range" = none := He.free_ok T.X T.G (T.c.d.fact 5 rfl)
theorem Row._law_name (T : Row g mg base) : mg "_law_name" = some (.ref (He.ga g.K "_law_name")) := He.glo_ok T.X T.G (T.c.d.fact 6 rfl)
theorem Row._law_names (T : Row g mg base) : mg "_law_names" = some (.ref (He.ga g.K "_law_names")) := He.glo_ok T.X T.G (T.c.d.fact 7 rfl)
theorem Row._law_pick (T : Row g mg base) : mg "_law_pick" = some (.ref (He.ga g.K "_law_pick")) := He.glo_ok T.X T.G (T.c.d.fact 8 rfl)
theorem Row.isinstance (T : Row g mg base) : mg "isinstance" = none := He.free_ok T.X T.G (T.c.d.fact 9 rfl)
theorem Row.Deeds (T : Row g mg base) : mg "Deeds" = some (.ref (He.ga g.K "Deeds")) := He.glo_ok T.X T.G (T.c.d.fact 10 rfl)
theorem Row.list (T : Row g mg base) : mg "list" = none := He.free_ok T.X T.G (T.c.d.fact 11 rfl)
theorem Row.tuple (T : Row g mg base) : mg "tuple" = none := He.free_ok T.X T.G (T.c.d.fact 14 rfl)
theorem Row.is_row (T : Row g mg base) : mg "is_row" = some (.ref (He.ga g.K "is_row")) := He.glo_ok T.X T.G (T.c.d.fact 15 rfl)
theorem Row.BadWords (T : Row g mg base) : mg "BadWords" = some (.ref (He.ga g.K "BadWords")) := He.glo_ok T.X T.G (T.c.d.fact 16 rfl)
theorem Row.str (T : Row g mg base) : mg "str" = none := He.free_ok T.X T.G (T.c.d.fact 17 rfl)
theorem Row.LETTERS (T : Row g mg base) : ∃ t, mg "LETTERS" = some (.str "abcdefghijklmnopqrstuvwxyz" t) := He.str_ok T.X T.G (T.c.d.fact 18 rfl)
theorem Row.is_name (T : Row g mg base) : mg "is_name" = some (.ref (He.ga g.K "is_name")) := He.glo_ok T.X T.G (T.c.d.fact 19 rfl)
theorem Row.set (T : Row g mg base) : mg "set" = none := He.free_ok T.X T.G (T.c.d.fact 20 rfl)
theorem Row.sorted (T : Row g mg base) : mg "sorted" = none := He.free_ok T.X T.G (T.c.d.fact 21 rfl)
theorem Row.words_of_row (T : Row g mg base) : mg "words_of_row" = some (.ref (He.ga g.K "words_of_row")) := He.glo_ok T.X T.G (T.c.d.fact 22 rfl)
theorem Row.bool (T : Row g mg base) : mg "bool" = none := He.free_ok T.X T.G (T.c.d.fact 25 rfl)
theorem Row.dict (T : Row g mg base) : mg "dict" = none := He.free_ok T.X T.G (T.c.d.fact 26 rfl)
theorem Row._law_same (T : Row g mg base) : mg "_law_same" = some (.ref (He.ga g.K "_law_same")) := He.glo_ok T.X T.G (T.c.d.fact 27 rfl)
theorem Row._law_flag (T : Row g mg base) : mg "_law_flag" = some (.ref (He.ga g.K "_law_flag")) := He.glo_ok T.X T.G (T.c.d.fact 29 rfl)
theorem Row._law_odd_name (T : Row g mg base) : mg "_law_odd_name" = some (.ref (He.ga g.K "_law_odd_name")) := He.glo_ok T.X T.G (T.c.d.fact 31 rfl)
theorem Row._law_deep (T : Row g mg base) : mg "_law_deep" = some (.ref (He.ga g.K "_law_deep")) := He.glo_ok T.X T.G (T.c.d.fact 32 rfl)
theorem Row._law_equal_to_nothing_else (T : Row g mg base) : mg "_law_equal_to_nothing_else" = some (.ref (He.ga g.K "_law_equal_to_nothing_else")) := He.glo_ok T.X T.G (T.c.d.fact 35 rfl)
theorem Row.kitb (T : Row g mg base) : kitCB g.K = true := by
  have h := T.c.x
  unfold ex at h
  exact And.left (Bool.and_eq_true_iff.mp (h))
theorem Row.x_BadWords (T : Row g mg base) : xB g.K "BadWords" "value" = true := by
  have h := T.c.x
  unfold ex at h
  exact And.left (Bool.and_eq_true_iff.mp (And.right (Bool.and_eq_true_iff.mp (h))))
theorem Row.pr_Deeds (T : Row g mg base) : present g.K "Deeds" = true := by
  have h := T.c.x
  unfold ex at h
  exact And.left (Bool.and_eq_true_iff.mp (And.right (Bool.and_eq_true_iff.mp (And.right (Bool.and_eq_true_iff.mp (h))))))
theorem Row.neb_Deeds (T : Row g mg base) : neCB g.K "Deeds" = true := by
  have h := T.c.x
  unfold ex at h
  exact And.left (Bool.and_eq_true_iff.mp (And.right (Bool.and_eq_true_iff.mp (And.right (Bool.and_eq_true_iff.mp (And.right (Bool.and_eq_true_iff.mp (h))))))))
theorem Row.nfb_Deeds (T : Row g mg base) : nfB g.K "Deeds" = true := by
  have h := T.c.x
  unfold ex at h
  exact And.left (Bool.and_eq_true_iff.mp (And.right (Bool.and_eq_true_iff.mp (And.right (Bool.and_eq_true_iff.mp (And.right (Bool.and_eq_true_iff.mp (And.right (Bool.and_eq_true_iff.mp (h))))))))))
theorem Row.is_Deeds (T : Row g mg base) : isB g.K "Deeds" = true := by
  have h := T.c.x
  unfold ex at h
  exact And.left (Bool.and_eq_true_iff.mp (And.right (Bool.and_eq_true_iff.mp (And.right (Bool.and_eq_true_iff.mp (And.right (Bool.and_eq_true_iff.mp (And.right (Bool.and_eq_true_iff.mp (And.right (Bool.and_eq_true_iff.mp (h))))))))))))
theorem Row.kt_Deeds (T : Row g mg base) : ktB g.K "Deeds" = true := by
  have h := T.c.x
  unfold ex at h
  exact And.left (Bool.and_eq_true_iff.mp (And.right (Bool.and_eq_true_iff.mp (And.right (Bool.and_eq_true_iff.mp (And.right (Bool.and_eq_true_iff.mp (And.right (Bool.and_eq_true_iff.mp (And.right (Bool.and_eq_true_iff.mp (And.right (Bool.and_eq_true_iff.mp (h))))))))))))))
theorem K_C_law_cell (T : Row g mg base) : Cal g mg base 1 "_law_cell" P_law_cell [] (PSp g 2 Pu.F_law_cell) := by
  obtain ⟨fd, F⟩ := T.c.d.def_ 0 (d := d_law_cell) rfl
  exact ⟨_, fd, [], F.ok sc_law_cell (fun vs H Q E h => h.len) (fun cdv A outer s H vs Q E hr h => ⟨Pu.t_law_cell g E, (pss_cons (ps_if (pt_cmpR o_lt (pv 1) (pe_callB call_len2 (by rfl) T.len PySem.boot_len (pa_cons (pv 0) pa_nil)) (nomark _)) (pss_one (ps_ret (pe_ix (ix_2 hr) (pv 0) (pv 1) (fun _ _ => rfl)))) pss_nil) (pss_one (ps_ret (pe_op o_addX (pe_op o_mulX pe_int (pv 1)) pe_int)))), pure_fn (N := N_law_cell) rfl (Pu.sim_law_cell ) (by decide) (Pu.un_law_cell ▸ h)⟩), T._law_cell, F.kp, (FunD.bindsN F fun _ _ _ _ _ _ us hl => match us, hl with | [_, _], _ => rfl), .nil⟩
theorem K_C_law_pool (T : Row g mg base) : Cal g mg base 1 "_law_pool" P_law_pool [] (PSp g 1 Pu.F_law_pool) := by
  obtain ⟨fd, F⟩ := T.c.d.def_ 1 (d := d_law_pool) rfl
  exact ⟨_, fd, [], F.ok sc_law_pool (fun vs H Q E h => h.len) (fun cdv A outer s H vs Q E hr h => ⟨Pu.t_law_pool g E, (pss_cons (ps_set (i := 1) sc_law_pool.nd rfl (.inl rfl) pe_int) (pss_cons (ps_if (pt_cmpR o_ge (pv 0) (pe_op o_pow pe_int pe_int) (nomark _)) (pss_one (ps_set (i := 1) sc_law_pool.nd rfl (.inl rfl) (pv 0))) pss_nil) (pss_one (ps_ret (pe_lst (pa_cons (pe_op o_mod (pe_callTy call_int1 (by rfl) T.int (by decide +kernel) (pa_cons (pv 0) pa_nil)) pe_int) (pa_cons (pv 1) (pa_cons pe_int pa_nil)))))))), pure_fn (N := N_law_pool) rfl (Pu.sim_law_pool ) (by decide) (Pu.un_law_pool ▸ h)⟩), T._law_pool, F.kp, (FunD.bindsN F fun _ _ _ _ _ _ us hl => match us, hl with | [_], _ => rfl), .nil⟩
theorem K_C_law_draw (T : Row g mg base) : Cal g mg base 1 "_law_draw" P_law_draw [] (PSp g 2 Pu.F_law_draw) := by
  obtain ⟨fd, F⟩ := T.c.d.def_ 2 (d := d_law_draw) rfl
  exact ⟨_, fd, [], F.ok sc_law_draw (fun vs H Q E h => h.len) (fun cdv A outer s H vs Q E hr h => ⟨Pu.t_law_draw g E, (pss_cons (ps_asg (pe_op o_addX (pe_ix (ix_2 hr) (pv 0) pe_int (fun _ _ => rfl)) pe_int) (pg_sub (pv 0) pe_int set_list)) (pss_cons (ps_if (pt_cmpR o_gt (pe_ix (ix_2 hr) (pv 0) pe_int (fun _ _ => rfl)) pe_int (nomark _)) (pss_cons (ps_set (i := 2) sc_law_draw.nd rfl (.inl rfl) (pe_op o_mod (pe_callTy call_int1 (by rfl) T.int (by decide +kernel) (pa_cons (pe_ix (ix_2 hr) (pv 0) pe_int (fun _ _ => rfl)) pa_nil)) (pv 1))) (pss_cons (ps_asg (pe_op o_div (pe_ix (ix_2 hr) (pv 0) pe_int (fun _ _ => rfl)) (pv 1)) (pg_sub (pv 0) pe_int set_list)) (pss_one (ps_ret (pv 2))))) pss_nil) (pss_cons (ps_set (i := 3) sc_law_draw.nd rfl (.inl rfl) (pe_op o_mod (pe_callTy call_int1 (by rfl) T.int (by decide +kernel) (pa_cons (pe_op o_mulX (pe_op o_addX (pe_op o_addX (pe_ix (ix_2 hr) (pv 0) pe_int (fun _ _ => rfl)) (pe_op o_mulX pe_int (pe_ix (ix_2 hr) (pv 0) pe_int (fun _ _ => rfl)))) pe_int) pe_int) pa_nil)) pe_int)) (pss_cons (ps_set (i := 3) sc_law_draw.nd rfl (.inl rfl) (pe_op o_mod (pe_callTy call_int1 (by rfl) T.int (by decide +kernel) (pa_cons (pe_op o_mulX (pv 3) (pe_op o_addX (pe_op o_div (pv 3) pe_int) pe_int)) pa_nil)) pe_int)) (pss_cons (ps_set (i := 3) sc_law_draw.nd rfl (.inl rfl) (pe_op o_mod (pe_callTy call_int1 (by rfl) T.int (by decide +kernel) (pa_cons (pe_op o_mulX (pv 3) (pe_op o_addX (pe_op o_div (pv 3) pe_int) pe_int)) pa_nil)) pe_int)) (pss_one (ps_ret (pe_op o_mod (pe_callTy call_int1 (by rfl) T.int (by decide +kernel) (pa_cons (pe_op o_div (pv 3) pe_int) pa_nil)) (pv 1))))))))), pure_fn (N := N_law_draw) rfl (Pu.sim_law_draw ) (by decide) (Pu.un_law_draw ▸ h)⟩), T._law_draw, F.kp, (FunD.bindsN F fun _ _ _ _ _ _ us hl => match us, hl with | [_, _], _ => rfl), .nil⟩
theorem K_C_law_name (T : Row g mg base) : Cal g mg base 1 "_law_name" P_law_name [] (PSp g 1 Pu.F_law_name) := by
  obtain ⟨fd, F⟩ := T.c.d.def_ 3 (d := d_law_name) rfl
  exact ⟨_, fd, [], F.ok sc_law_name (fun vs H Q E h => h.len) (fun cdv A outer s H vs Q E hr h => ⟨Pu.t_law_name g E, (pss_cons (ps_set (i := 1) sc_law_name.nd rfl (.inl rfl) pe_str) (pss_cons (ps_set (i := 2) sc_law_name.nd rfl (.inl rfl) (pe_op o_addX (pv 0) pe_int)) (pss_cons (ps_while (passes_of rfl) (pt_cmpR o_gt (pv 2) pe_int (nomark _)) (pss_cons (ps_set (i := 2) sc_law_name.nd rfl (.inl rfl) (pe_op o_sub (pv 2) pe_int)) (pss_cons (ps_set (i := 1) sc_law_name.nd rfl (.inl rfl) (pe_op o_addX (pe_ix (ix_2 hr) pe_str (pe_op o_mod (pe_callTy call_int1 (by rfl) T.int (by decide +kernel) (pa_cons (pv 2) pa_nil)) pe_int) (fun _ _ => rfl)) (pv 1))) (pss_one (ps_set (i := 2) sc_law_name.nd rfl (.inl rfl) (pe_op o_div (pv 2) pe_int)))))) (pss_one (ps_ret (pv 1)))))), pure_fn (N := N_law_name) rfl (Pu.sim_law_name ) (by decide) (Pu.un_law_name ▸ h)⟩), T._law_name, F.kp, (FunD.bindsN F fun _ _ _ _ _ _ us hl => match us, hl with | [_], _ => rfl), .nil⟩
theorem K_C_law_names (T : Row g mg base) : Cal g mg base 2 "_law_names" P_law_names [] (PSp g 2 Pu.F_law_names) := by
  obtain ⟨fd, F⟩ := T.c.d.def_ 4 (d := d_law_names) rfl
  have C_law_draw := K_C_law_draw T
  have C_law_name := K_C_law_name T
  exact ⟨_, fd, [], F.ok sc_law_names (fun vs H Q E h => h.len) (fun cdv A outer s H vs Q E hr h => ⟨Pu.t_law_names g E, (pss_cons (ps_set (i := 2) sc_law_names.nd rfl (.inl rfl) (pe_lst pa_nil)) (pss_cons (ps_for (passes_of rfl) rfl (pi_range1 (by rfl) T.range (pa_cons (pv 1) pa_nil)) (pg_name (i := 3) sc_law_names.nd rfl (.inl rfl)) (pss_cons (ps_set (i := 4) sc_law_names.nd rfl (.inl rfl) (pe_calE C_law_draw (hr.mono (by decide)) (by rfl) (passes_call (takes_of rfl rfl rfl rfl) fun _ _ _ _ h => h) (pa_cons (pv 0) (pa_cons pe_int pa_nil)))) (pss_cons (ps_if (pt_cmpR (o_eqX hr) (pe_calE C_law_draw (hr.mono (by decide)) (by rfl) (passes_call (takes_of rfl rfl rfl rfl) fun _ _ _ _ h => h) (pa_cons (pv 0) (pa_cons pe_int pa_nil))) pe_int (nomark _)) (pss_one (ps_set (i := 4) sc_law_names.nd rfl (.inl rfl) (pe_calE C_law_draw (hr.mono (by decide)) (by rfl) (passes_call (takes_of rfl rfl rfl rfl) fun _ _ _ _ h => h) (pa_cons (pv 0) (pa_cons (pe_op o_pow pe_int pe_int) pa_nil))))) pss_nil) (pss_cons (ps_for (passes_of rfl) rfl (pi_range1 (by rfl) T.range (pa_cons (pv 3) pa_nil)) (pg_name (i := 5) sc_law_names.nd rfl (.inl rfl)) (pss_one (ps_if (pt_cmpR (o_inX hr) (pv 4) (pv 2) (by rfl)) (pss_one (ps_set (i := 4) sc_law_names.nd rfl (.inl rfl) (pe_op o_mod (pe_callTy call_int1 (by rfl) T.int (by decide +kernel) (pa_cons (pe_op o_addX (pv 4) pe_int) pa_nil)) (pe_op o_pow pe_int pe_int)))) pss_nil))) (pss_one (ps_expr (pe_bm PySem.F.plainAttrs_list PySem.F.slot_list_append PySem.F.type_list_append mt_append (pv 2) (pa_cons (pv 4) pa_nil)))))))) (pss_one (ps_ret (pe_lc (own := [("_law_number", 4)]) (by rfl) sc_law_names.nd (pi_seq2 (pv 2)) (blkOk_by (own := [("_law_number", 4)]) (N := N_law_names) (sc := defScope s_law_names) (by decide +kernel)) (fun _ _ _ _ _ => (pg_name (i := 4) sc_law_names.nd rfl (.inl rfl))) (fun _ _ _ _ _ => pts_nil) (fun _ _ _ _ _ => (pe_cal C_law_name (hr.mono (by decide)) (by rfl) (pa_cons (pv 4) pa_nil)))))))), pure_fn (N := N_law_names) rfl (Pu.sim_law_names ) (by decide) (Pu.un_law_names ▸ h)⟩), T._law_names, F.kp, (FunD.bindsN F fun _ _ _ _ _ _ us hl => match us, hl with | [_, _], _ => rfl), .nil⟩
theorem K_C_k15_pick (T : Row g mg base) : Cal g mg base 2 "_law_pick" P_k15_pick [] (PSp g 2 Pu.F_k15_pick) := by
  obtain ⟨fd, F⟩ := T.c.d.def_ 5 (d := d_k15_pick) rfl
  have C_law_draw := K_C_law_draw T
  exact ⟨_, fd, [], F.ok sc_k15_pick (fun vs H Q E h => h.len) (fun cdv A outer s H vs Q E hr h => ⟨Pu.t_k15_pick g E, (pss_one (ps_ret (pe_lc (own := [("_law_k", 2)]) (by rfl) sc_k15_pick.nd (pi_range1 (by rfl) T.range (pa_cons (pe_calE C_law_draw (hr.mono (by decide)) (by rfl) (passes_call (takes_of rfl rfl rfl rfl) fun _ _ _ _ h => h) (pa_cons (pv 0) (pa_cons (pe_op o_mulX pe_int (pe_callB call_len2 (by rfl) T.len PySem.boot_len (pa_cons (pv 1) pa_nil))) pa_nil))) pa_nil)) (blkOk_by (own := [("_law_k", 2)]) (N := N_k15_pick) (sc := defScope s_k15_pick) (by decide +kernel)) (fun _ _ _ _ _ => (pg_name (i := 2) sc_k15_pick.nd rfl (.inl rfl))) (fun _ _ _ _ _ => pts_nil) (fun _ _ _ _ _ => (pe_ix (ix_2 hr) (pv 1) (pe_cal C_law_draw (hr.mono (by decide)) (by rfl) (pa_cons (pv 0) (pa_cons (pe_callB call_len2 (by rfl) T.len PySem.boot_len (pa_cons (pv 1) pa_nil)) pa_nil))) (fun _ _ => rfl)))))), pure_fn (N := N_k15_pick) rfl (Pu.sim_k15_pick ) (by decide) (Pu.un_k15_pick ▸ h)⟩), T._law_pick, F.kp, (FunD.bindsN F fun _ _ _ _ _ _ us hl => match us, hl with | [_, _], _ => rfl), .nil⟩
theorem K_N_Deeds_names (T : Row g mg base) : CalN g mg base 1 "Deeds" "names" P_Deeds_names [] (PSp g 1 Pu.F_Deeds_names) := by
  obtain ⟨fd, F⟩ := T.c.d.def_ 6 (d := d_Deeds_names) rfl
  exact ⟨_, fd, [], He.cls_ok (T.c.d.fact 13 rfl), He.meth_ok (T.c.d.fact 12 rfl), F.ok sc_Deeds_names (fun vs H Q E h => h.len) (fun cdv A outer s H vs Q E hr h => ⟨Pu.t_Deeds_names g E, (pss_one (ps_ret (pe_callTy (call_list2 rfl) (by rfl) T.list (by decide +kernel) (pa_cons (pe_fld (pv 0) rfl) pa_nil)))), pure_fn (N := N_Deeds_names) rfl (Pu.sim_Deeds_names ) (by decide) (Pu.un_Deeds_names ▸ h)⟩), (FunD.bindsN F fun _ _ _ _ _ _ us hl => match us, hl with | [_], _ => rfl), .nil⟩
theorem K_C_is_row (T : Row g mg base) : Cal g mg base 1 "is_row" P_is_row [] (PSp g 1 Pu.F_is_row) := by
  obtain ⟨fd, F⟩ := T.c.d.def_ 7 (d := d_is_row) rfl
  exact ⟨_, fd, [], F.ok sc_is_row (fun vs H Q E h => h.len) (fun cdv A outer s H vs Q E hr h => ⟨Pu.t_is_row g E, (pss_one (ps_ret (pe_callB call_isiT (by rfl) T.isinstance (by decide +kernel) (pa_cons (pv 0) (pa_cons (pe_tup (pa_cons (pe_ty T.list) (pa_cons (pe_ty T.tuple) pa_nil))) pa_nil))))), pure_fn (N := N_is_row) rfl (Pu.sim_is_row (kitCB_ok T.kitb)) (by decide) (Pu.un_is_row ▸ h)⟩), T.is_row, F.kp, (FunD.bindsN F fun _ _ _ _ _ _ us hl => match us, hl with | [_], _ => rfl), .nil⟩
theorem K_X_BadWords (T : Row g mg base) : XCl g mg base 1 "BadWords" "value" := by
  obtain ⟨fd, F⟩ := T.c.d.def_ 8 (d := d_BadWords_init) rfl
  obtain ⟨h1, h2, h3, h4, h5⟩ := xB_ok (T.x_BadWords)
  exact ⟨h1, h2, h3, T.BadWords, _, fd, P_BadWords_init, h4, h5, F.ok sc_BadWords_init (fun _ _ _ _ h => len_exc h) (fun cdv A outer s H vs Q E hr h => ⟨t_exc g.K "value", pss_one (ps_ost (pv 0) (pv 1)), pure_exc h1 h3 h⟩), (FunD.bindsN F fun _ _ _ _ _ _ us hl => match us, hl with | [_, _], _ => rfl)⟩
theorem K_C_is_name (T : Row g mg base) : Cal g mg base 1 "is_name" P_is_name [] (PSp g 1 Pu.F_is_name) := by
  obtain ⟨fd, F⟩ := T.c.d.def_ 9 (d := d_is_name) rfl
  exact ⟨_, fd, [], F.ok sc_is_name (fun vs H Q E h => h.len) (fun cdv A outer s H vs Q E hr h => ⟨Pu.t_is_name g E, (pss_cons (ps_if (PW.pt (pw_or (pt_not (p_truth2 (pe_callB call_isi (by rfl) T.isinstance (by decide +kernel) (pa_cons (pv 0) (pa_cons (pe_ty T.str) pa_nil))))) (pw_or1 (pt_not (pt_chain o_le o_le pe_int (pe_callB call_len2 (by rfl) T.len PySem.boot_len (pa_cons (pv 0) pa_nil)) pe_int))))) (pss_one (ps_ret pe_bl)) pss_nil) (pss_cons (ps_for (passes_of rfl) rfl (pi_str (pv 0)) (pg_name (i := 1) sc_is_name.nd rfl (.inl rfl)) (pss_one (ps_if (pt_cmpR (o_notInX hr) (pv 1) (pe_gS T.LETTERS) (by rfl)) (pss_one (ps_ret pe_bl)) pss_nil))) (pss_one (ps_ret pe_bl)))), pure_fn (N := N_is_name) rfl (Pu.sim_is_name (kitCB_ok T.kitb)) (by decide) (Pu.un_is_name ▸ h)⟩), T.is_name, F.kp, (FunD.bindsN F fun _ _ _ _ _ _ us hl => match us, hl with | [_], _ => rfl), .nil⟩
theorem K_C_words_of_row (T : Row g mg base) : Cal g mg base 3 "words_of_row" P_words_of_row [] (PSp g 1 Pu.F_words_of_row) := by
  obtain ⟨fd, F⟩ := T.c.d.def_ 10 (d := d_words_of_row) rfl
  have N_Deeds_names := K_N_Deeds_names T
  have C_is_row := K_C_is_row T
  have X_BadWords := K_X_BadWords T
  have C_is_name := K_C_is_name T
  exact ⟨_, fd, [], F.ok sc_words_of_row (fun vs H Q E h => h.len) (fun cdv A outer s H vs Q E hr h => ⟨Pu.t_words_of_row g E, (pss_cons (ps_if (p_truth2 (pe_callB call_isi (by rfl) T.isinstance (by decide +kernel) (pa_cons (pv 0) (pa_cons (pe_cl T.Deeds) pa_nil)))) (pss_one (ps_ret (pe_me0E N_Deeds_names (pv 0) (hr.mono (by decide)) (passes_call (takes_of rfl rfl rfl rfl) fun _ _ _ _ h => h) ))) pss_nil) (pss_cons (ps_if (pt_not (p_truth2 (pe_calE C_is_row (hr.mono (by decide)) (by rfl) (passes_call (takes_of rfl rfl rfl rfl) fun _ _ _ _ h => h) (pa_cons (pv 0) pa_nil)))) (pss_one (ps_raise rfl (takes_of rfl rfl rfl rfl) (pmk_X X_BadWords (hr.mono (by decide)) (by rfl) (pa_cons (pv 0) pa_nil)))) pss_nil) (pss_cons (ps_for (passes_of rfl) rfl (pi_seq2 (pv 0)) (pg_name (i := 1) sc_words_of_row.nd rfl (.inl rfl)) (pss_one (ps_if (pt_not (p_truth2 (pe_calE C_is_name (hr.mono (by decide)) (by rfl) (passes_call (takes_of rfl rfl rfl rfl) fun _ _ _ _ h => h) (pa_cons (pv 1) pa_nil)))) (pss_one (ps_raise rfl (takes_of rfl rfl rfl rfl) (pmk_X X_BadWords (hr.mono (by decide)) (by rfl) (pa_cons (pv 1) pa_nil)))) pss_nil))) (pss_one (ps_ret (pe_callB (cr_sortedA rfl) (by rfl) T.sorted (by decide +kernel) (pa_cons (pe_callTy (cr_setX rfl) (by rfl) T.set (by decide +kernel) (pa_cons (pv 0) pa_nil)) pa_nil))))))), pure_fn (N := N_words_of_row) rfl (Pu.sim_words_of_row (kitCB_ok T.kitb) T.pr_Deeds) (by decide) (Pu.un_words_of_row ▸ h)⟩), T.words_of_row, F.kp, (FunD.bindsN F fun _ _ _ _ _ _ us hl => match us, hl with | [_], _ => rfl), .nil⟩
theorem K_M_Deeds (T : Row g mg base) : CalM g mg base 4 "Deeds" P_Deeds_init [] (PSp g 2 Pu.F_Deeds_init) := by
  obtain ⟨fd, F⟩ := T.c.d.def_ 11 (d := d_Deeds_init) rfl
  have C_words_of_row := K_C_words_of_row T
  obtain ⟨ds, hv, hb⟩ := FunD.binds1 (ps := P_Deeds_init) F 2 1 (fun h => by cases h) rfl (fun _ _ _ _ _ _ _ us its h1 h2 => match us, its, h1, h2 with | [_, _], [_], _, _ => ⟨_, rfl, rfl⟩)
  exact ⟨_, fd, ds, He.mkr_ok (T.c.d.fact 23 rfl), F.ok sc_Deeds_init (fun vs H Q E h => h.len) (fun cdv A outer s H vs Q E hr h => ⟨Pu.t_Deeds_init g E, (pss_one (ps_fld (pv 0) (pe_calE C_words_of_row (hr.mono (by decide)) (by rfl) (passes_call (takes_of rfl rfl rfl rfl) fun _ _ _ _ h => h) (pa_cons (pv 1) pa_nil)) rfl)), pure_fn (N := N_Deeds_init) rfl (Pu.sim_Deeds_init ) (by decide) (Pu.un_Deeds_init ▸ h)⟩), T.Deeds, hb, hv⟩
theorem K_N_Deeds_len (T : Row g mg base) : CalN g mg base 1 "Deeds" "__len__" P_Deeds_len [] (PSp g 1 Pu.F_Deeds_len) := by
  obtain ⟨fd, F⟩ := T.c.d.def_ 12 (d := d_Deeds_len) rfl
  exact ⟨_, fd, [], He.cls_ok (T.c.d.fact 13 rfl), He.meth_ok (T.c.d.fact 24 rfl), F.ok sc_Deeds_len (fun vs H Q E h => h.len) (fun cdv A outer s H vs Q E hr h => ⟨Pu.t_Deeds_len g E, (pss_one (ps_ret (pe_callB call_len2 (by rfl) T.len PySem.boot_len (pa_cons (pe_fld (pv 0) rfl) pa_nil)))), pure_fn (N := N_Deeds_len) rfl (Pu.sim_Deeds_len ) (by decide) (Pu.un_Deeds_len ▸ h)⟩), (FunD.bindsN F fun _ _ _ _ _ _ us hl => match us, hl with | [_], _ => rfl), .nil⟩
theorem same_step (T : Row g mg base) {n lv : Nat} (C_law_same : Cal g mg base lv "_law_same" P_law_same [] (PSp g 2 (Pu.F_law_same n))) : Cal g mg base (lv + 1) "_law_same" P_law_same [] (PSp g 2 (Pu.F_law_same (n + 1))) := by
  obtain ⟨fd, F⟩ := T.c.d.def_ 13 (d := d_law_same) rfl
  exact ⟨_, fd, [], F.ok sc_law_same (fun vs H Q E h => h.len) (fun cdv A outer s H vs Q E hr h => ⟨Pu.t_law_same g E (Pu.F_law_same n), (pss_cons (ps_if (pt_cmpR o_isN (pv 1) pe_non (nomark _)) (pss_one (ps_ret (pe_cmpR o_isN (pv 0) pe_non (nomark _)))) pss_nil) (pss_cons (ps_if (p_truth2 (pe_callB call_isi (by rfl) T.isinstance (by decide +kernel) (pa_cons (pv 1) (pa_cons (pe_ty T.bool) pa_nil)))) (pss_one (ps_ret (pe_and (pe_callB call_isi (by rfl) T.isinstance (by decide +kernel) (pa_cons (pv 0) (pa_cons (pe_ty T.bool) pa_nil))) (pe_one (pe_cmpR (o_eqX hr) (pv 0) (pv 1) (nomark _)))))) pss_nil) (pss_cons (ps_if (p_truth2 (pe_callB call_isi (by rfl) T.isinstance (by decide +kernel) (pa_cons (pv 1) (pa_cons (pe_ty T.int) pa_nil)))) (pss_one (ps_ret (pe_and (pe_callB call_isi (by rfl) T.isinstance (by decide +kernel) (pa_cons (pv 0) (pa_cons (pe_ty T.int) pa_nil))) (pe_and (pe_not (pe_callB call_isi (by rfl) T.isinstance (by decide +kernel) (pa_cons (pv 0) (pa_cons (pe_ty T.bool) pa_nil)))) (pe_one (pe_cmpR (o_eqX hr) (pv 0) (pv 1) (nomark _))))))) pss_nil) (pss_cons (ps_if (p_truth2 (pe_callB call_isi (by rfl) T.isinstance (by decide +kernel) (pa_cons (pv 1) (pa_cons (pe_ty T.str) pa_nil)))) (pss_one (ps_ret (pe_and (pe_callB call_isi (by rfl) T.isinstance (by decide +kernel) (pa_cons (pv 0) (pa_cons (pe_ty T.str) pa_nil))) (pe_one (pe_cmpR (o_eqX hr) (pv 0) (pv 1) (nomark _)))))) pss_nil) (pss_cons (ps_if (PW.pt (pw_and (p_truth2 (pe_callB call_isi (by rfl) T.isinstance (by decide +kernel) (pa_cons (pv 1) (pa_cons (pe_ty T.list) pa_nil)))) (pw_and1 (pt_not (p_truth2 (pe_callB call_isi (by rfl) T.isinstance (by decide +kernel) (pa_cons (pv 0) (pa_cons (pe_ty T.list) pa_nil)))))))) (pss_one (ps_ret pe_bl)) pss_nil) (pss_cons (ps_if (PW.pt (pw_and (p_truth2 (pe_callB call_isi (by rfl) T.isinstance (by decide +kernel) (pa_cons (pv 1) (pa_cons (pe_ty T.tuple) pa_nil)))) (pw_and1 (pt_not (p_truth2 (pe_callB call_isi (by rfl) T.isinstance (by decide +kernel) (pa_cons (pv 0) (pa_cons (pe_ty T.tuple) pa_nil)))))))) (pss_one (ps_ret pe_bl)) pss_nil) (pss_cons (ps_if (p_truth2 (pe_callB call_isi (by rfl) T.isinstance (by decide +kernel) (pa_cons (pv 1) (pa_cons (pe_ty T.dict) pa_nil)))) (pss_one (ps_ret (pe_and (pe_callB call_isi (by rfl) T.isinstance (by decide +kernel) (pa_cons (pv 0) (pa_cons (pe_ty T.dict) pa_nil))) (pe_one (pe_cmpR (o_eqX hr) (pv 0) (pv 1) (nomark _)))))) pss_nil) (pss_cons (ps_if (pt_cmpR (o_neX hr) (pe_callB call_len2 (by rfl) T.len PySem.boot_len (pa_cons (pv 0) pa_nil)) (pe_callB call_len2 (by rfl) T.len PySem.boot_len (pa_cons (pv 1) pa_nil)) (nomark _)) (pss_one (ps_ret pe_bl)) pss_nil) (pss_cons (ps_for (passes_of rfl) rfl (pi_range1 (by rfl) T.range (pa_cons (pe_callB call_len2 (by rfl) T.len PySem.boot_len (pa_cons (pv 1) pa_nil)) pa_nil)) (pg_name (i := 2) sc_law_same.nd rfl (.inl rfl)) (pss_one (ps_if (pt_not (p_truth2 (pe_calE C_law_same hr (by rfl) (passes_call (takes_of rfl rfl rfl rfl) fun _ _ _ _ h => h) (pa_cons (pe_ix (ix_2 hr) (pv 0) (pv 2) (fun _ _ => rfl)) (pa_cons (pe_ix (ix_2 hr) (pv 1) (pv 2) (fun _ _ => rfl)) pa_nil))))) (pss_one (ps_ret pe_bl)) pss_nil))) (pss_one (ps_ret pe_bl))))))))))), pure_fn (N := N_law_same) rfl (Pu.sim_law_same (Pu.fl_law_same n) (kitCB_ok T.kitb)) (by decide) (Pu.same_succ n ▸ h)⟩), T._law_same, F.kp, (FunD.bindsN F fun _ _ _ _ _ _ us hl => match us, hl with | [_, _], _ => rfl), .nil⟩
theorem K_law_same (T : Row g mg base) : ∀ n, Cal g mg base (n + 1) "_law_same" P_law_same [] (PSp g 2 (Pu.F_law_same n))
  | 0 => by
    obtain ⟨fd, F⟩ := T.c.d.def_ 13 (d := d_law_same) rfl
    rw [Pu.same_zero]
    exact ⟨_, fd, [], ⟨fun _ _ _ _ h => (psp_none h).elim, fun _ _ _ _ _ _ _ _ _ _ _ _ _ h => (psp_none h).elim⟩, T._law_same, F.kp, (FunD.bindsN F fun _ _ _ _ _ _ us hl => match us, hl with | [_, _], _ => rfl), .nil⟩
  | n + 1 => same_step T (K_law_same T n)
theorem K_N_Deeds_bool (T : Row g mg base) : CalN g mg base 1 "Deeds" "__bool__" P_Deeds_bool [] (PSp g 1 Pu.F_Deeds_bool) := by
  obtain ⟨fd, F⟩ := T.c.d.def_ 14 (d := d_Deeds_bool) rfl
  exact ⟨_, fd, [], He.cls_ok (T.c.d.fact 13 rfl), He.meth_ok (T.c.d.fact 28 rfl), F.ok sc_Deeds_bool (fun vs H Q E h => h.len) (fun cdv A outer s H vs Q E hr h => ⟨Pu.t_Deeds_bool g E, (pss_one (ps_ret (pe_cmpR o_gt (pe_callB call_len2 (by rfl) T.len PySem.boot_len (pa_cons (pe_fld (pv 0) rfl) pa_nil)) pe_int (nomark _)))), pure_fn (N := N_Deeds_bool) rfl (Pu.sim_Deeds_bool ) (by decide) (Pu.un_Deeds_bool ▸ h)⟩), (FunD.bindsN F fun _ _ _ _ _ _ us hl => match us, hl with | [_], _ => rfl), .nil⟩
theorem K_C_k15_flag (T : Row g mg base) : Cal g mg base 1 "_law_flag" P_k15_flag [] (PSp g 2 Pu.F_k15_flag) := by
  obtain ⟨fd, F⟩ := T.c.d.def_ 15 (d := d_k15_flag) rfl
  exact ⟨_, fd, [], F.ok sc_k15_flag (fun vs H Q E h => h.len) (fun cdv A outer s H vs Q E hr h => ⟨Pu.t_k15_flag g E, (pss_one (ps_ret (pe_and (pe_callB call_isi (by rfl) T.isinstance (by decide +kernel) (pa_cons (pv 0) (pa_cons (pe_ty T.bool) pa_nil))) (pe_one (pe_cmpR (o_eqX hr) (pv 0) (pv 1) (nomark _)))))), pure_fn (N := N_k15_flag) rfl (Pu.sim_k15_flag (kitCB_ok T.kitb)) (by decide) (Pu.un_k15_flag ▸ h)⟩), T._law_flag, F.kp, (FunD.bindsN F fun _ _ _ _ _ _ us hl => match us, hl with | [_, _], _ => rfl), .nil⟩
theorem K_N_Deeds_contains (T : Row g mg base) : CalN g mg base 1 "Deeds" "__contains__" P_Deeds_contains [] (PSp g 2 Pu.F_Deeds_contains) := by
  obtain ⟨fd, F⟩ := T.c.d.def_ 16 (d := d_Deeds_contains) rfl
  exact ⟨_, fd, [], He.cls_ok (T.c.d.fact 13 rfl), He.meth_ok (T.c.d.fact 30 rfl), F.ok sc_Deeds_contains (fun vs H Q E h => h.len) (fun cdv A outer s H vs Q E hr h => ⟨Pu.t_Deeds_contains g E, (pss_one (ps_ret (pe_and (pe_callB call_isi (by rfl) T.isinstance (by decide +kernel) (pa_cons (pv 1) (pa_cons (pe_ty T.str) pa_nil))) (pe_one (pe_cmpR (o_inX hr) (pv 1) (pe_fld (pv 0) rfl) (by rfl)))))), pure_fn (N := N_Deeds_contains) rfl (Pu.sim_Deeds_contains (kitCB_ok T.kitb)) (by decide) (Pu.un_Deeds_contains ▸ h)⟩), (FunD.bindsN F fun _ _ _ _ _ _ us hl => match us, hl with | [_, _], _ => rfl), .nil⟩
theorem K_C_o_odd_name (T : Row g mg base) : Cal g mg base 1 "_law_odd_name" P_o_odd_name [] (PSp g 1 Pu.F_o_odd_name) := by
  obtain ⟨fd, F⟩ := T.c.d.def_ 17 (d := d_o_odd_name) rfl
  exact ⟨_, fd, [], F.ok sc_o_odd_name (fun vs H Q E h => h.len) (fun cdv A outer s H vs Q E hr h => ⟨Pu.t_o_odd_name g E, (pss_cons (ps_set (i := 1) sc_o_odd_name.nd rfl (.inl rfl) (pe_lst (pa_cons pe_non (pa_cons pe_bl (pa_cons pe_int (pa_cons (pe_un o_neg pe_int) (pa_cons pe_str (pa_cons pe_str (pa_cons pe_str (pa_cons pe_str (pa_cons pe_str (pa_cons (pe_lst (pa_cons pe_str pa_nil)) (pa_cons (pe_tup (pa_cons pe_str pa_nil)) (pa_cons pe_dnewK (pa_cons pe_str (pa_cons pe_str (pa_cons pe_str (pa_cons (pe_op o_pow pe_int pe_int) pa_nil)))))))))))))))))) (pss_one (ps_ret (pe_ix (ix_2 hr) (pv 1) (pe_op o_mod (pe_callTy call_int1 (by rfl) T.int (by decide +kernel) (pa_cons (pv 0) pa_nil)) pe_int) (fun _ _ => rfl))))), pure_fn (N := N_o_odd_name) rfl (Pu.sim_o_odd_name ) (by decide) (Pu.un_o_odd_name ▸ h)⟩), T._law_odd_name, F.kp, (FunD.bindsN F fun _ _ _ _ _ _ us hl => match us, hl with | [_], _ => rfl), .nil⟩
theorem K_C_k15_deep (T : Row g mg base) : Cal g mg base 1 "_law_deep" P_k15_deep [] (PSp g 1 Pu.F_k15_deep) := by
  obtain ⟨fd, F⟩ := T.c.d.def_ 18 (d := d_k15_deep) rfl
  exact ⟨_, fd, [], F.ok sc_k15_deep (fun vs H Q E h => h.len) (fun cdv A outer s H vs Q E hr h => ⟨Pu.t_k15_deep g E, (pss_cons (ps_for (passes_of rfl) rfl (pi_range1 (by rfl) T.range (pa_cons pe_int pa_nil)) (pg_name (i := 1) sc_k15_deep.nd rfl (.inl rfl)) (pss_one (ps_set (i := 0) sc_k15_deep.nd rfl (.inl rfl) (pe_tup (pa_cons (pv 0) pa_nil))))) (pss_one (ps_ret (pv 0)))), pure_fn (N := N_k15_deep) rfl (Pu.sim_k15_deep ) (by decide) (Pu.un_k15_deep ▸ h)⟩), T._law_deep, F.kp, (FunD.bindsN F fun _ _ _ _ _ _ us hl => match us, hl with | [_], _ => rfl), .nil⟩
theorem K_N_Deeds_eq (T : Row g mg base) : CalN g mg base 1 "Deeds" "__eq__" P_Deeds_eq [] (PSp g 2 Pu.F_Deeds_eq) := by
  obtain ⟨fd, F⟩ := T.c.d.def_ 19 (d := d_Deeds_eq) rfl
  exact ⟨_, fd, [], He.cls_ok (T.c.d.fact 13 rfl), He.meth_ok (T.c.d.fact 33 rfl), F.ok sc_Deeds_eq (fun vs H Q E h => h.len) (fun cdv A outer s H vs Q E hr h => ⟨Pu.t_Deeds_eq g E, (pss_one (ps_ret (pe_and (pe_callB call_isi (by rfl) T.isinstance (by decide +kernel) (pa_cons (pv 1) (pa_cons (pe_cl T.Deeds) pa_nil))) (pe_one (pe_cmpR (o_eqX hr) (pe_fld (pv 0) rfl) (pe_fld (pv 1) rfl) (nomark _)))))), pure_fn (N := N_Deeds_eq) rfl (Pu.sim_Deeds_eq (kitCB_ok T.kitb) T.pr_Deeds) (by decide) (Pu.un_Deeds_eq ▸ h)⟩), (FunD.bindsN F fun _ _ _ _ _ _ us hl => match us, hl with | [_, _], _ => rfl), .nil⟩
theorem K_N_Deeds_within (T : Row g mg base) : CalN g mg base 4 "Deeds" "within" P_Deeds_within [] (PSp g 2 Pu.F_Deeds_within) := by
  obtain ⟨fd, F⟩ := T.c.d.def_ 20 (d := d_Deeds_within) rfl
  have C_words_of_row := K_C_words_of_row T
  exact ⟨_, fd, [], He.cls_ok (T.c.d.fact 13 rfl), He.meth_ok (T.c.d.fact 34 rfl), F.ok sc_Deeds_within (fun vs H Q E h => h.len) (fun cdv A outer s H vs Q E hr h => ⟨Pu.t_Deeds_within g E, (pss_cons (ps_set (i := 2) sc_Deeds_within.nd rfl (.inl rfl) (pe_calE C_words_of_row (hr.mono (by decide)) (by rfl) (passes_call (takes_of rfl rfl rfl rfl) fun _ _ _ _ h => h) (pa_cons (pv 1) pa_nil))) (pss_cons (ps_for (passes_of rfl) rfl (pi_seq2 (pe_fld (pv 0) rfl)) (pg_name (i := 3) sc_Deeds_within.nd rfl (.inl rfl)) (pss_one (ps_if (pt_cmpR (o_notInX hr) (pv 3) (pv 2) (by rfl)) (pss_one (ps_ret pe_bl)) pss_nil))) (pss_one (ps_ret pe_bl)))), pure_fn (N := N_Deeds_within) rfl (Pu.sim_Deeds_within ) (by decide) (Pu.un_Deeds_within ▸ h)⟩), (FunD.bindsN F fun _ _ _ _ _ _ us hl => match us, hl with | [_, _], _ => rfl), .nil⟩
theorem K_C_k15_else (T : Row g mg base) : Cal g mg base 10 "_law_equal_to_nothing_else" P_k15_else [] (PSp g 3 Pu.F_k15_else) := by
  obtain ⟨fd, F⟩ := T.c.d.def_ 21 (d := d_k15_else) rfl
  have N_Deeds_eq := K_N_Deeds_eq T
  have C_k15_flag := K_C_k15_flag T
  have N_Deeds_names := K_N_Deeds_names T
  have C_law_same := K_law_same T 8
  exact ⟨_, fd, [], F.ok sc_k15_else (fun vs H Q E h => h.len) (fun cdv A outer s H vs Q E hr h => ⟨Pu.t_k15_else g E, (pss_cons (ps_for (passes_of rfl) rfl (pi_seq2 (pe_lst (pa_cons (pe_callB (cr_sortedA rfl) (by rfl) T.sorted (by decide +kernel) (pa_cons (pe_callTy (cr_setX rfl) (by rfl) T.set (by decide +kernel) (pa_cons (pv 1) pa_nil)) pa_nil)) (pa_cons (pe_callTy call_tuple_of (by rfl) T.tuple (by decide +kernel) (pa_cons (pe_callB (cr_sortedA rfl) (by rfl) T.sorted (by decide +kernel) (pa_cons (pe_callTy (cr_setX rfl) (by rfl) T.set (by decide +kernel) (pa_cons (pv 1) pa_nil)) pa_nil)) pa_nil)) (pa_cons (pe_callTy (call_list2 rfl) (by rfl) T.list (by decide +kernel) (pa_cons (pv 1) pa_nil)) (pa_cons pe_non (pa_cons pe_bl (pa_cons (pe_ix (ix_2 hr) (pv 2) pe_int (fun _ _ => rfl)) (pa_cons (pe_callB call_lenT (by rfl) T.len PySem.boot_len (pa_cons (pe_callTy (cr_setX rfl) (by rfl) T.set (by decide +kernel) (pa_cons (pv 1) pa_nil)) pa_nil)) pa_nil))))))))) (pg_name (i := 3) sc_k15_else.nd rfl (.inl rfl)) (pss_one (ps_if (PW.pt (pw_or (pt_not (p_truth2 (pe_calE C_k15_flag (hr.mono (by decide)) (by rfl) (passes_call (takes_of rfl rfl rfl rfl) fun _ _ _ _ h => h) (pa_cons (pe_cmpR (o_eqO N_Deeds_eq.calQ (hr.mono (by decide))) (pv 0) (pv 3) (nomark _)) (pa_cons pe_bl pa_nil))))) (pw_or1 (pt_not (p_truth2 (pe_calE C_k15_flag (hr.mono (by decide)) (by rfl) (passes_call (takes_of rfl rfl rfl rfl) fun _ _ _ _ h => h) (pa_cons (pe_cmpR (o_neOX N_Deeds_eq.calQ T.neb_Deeds (hr.mono (by decide))) (pv 0) (pv 3) (nomark _)) (pa_cons pe_bl pa_nil)))))))) (pss_one (ps_ret pe_bl)) pss_nil))) (pss_one (ps_ret (pe_calE C_law_same (hr.mono (by decide)) (by rfl) (passes_call (takes_of rfl rfl rfl rfl) fun _ _ _ _ h => h) (pa_cons (pe_me0E N_Deeds_names (pv 0) (hr.mono (by decide)) (passes_call (takes_of rfl rfl rfl rfl) fun _ _ _ _ h => h) ) (pa_cons (pe_callB (cr_sortedA rfl) (by rfl) T.sorted (by decide +kernel) (pa_cons (pe_callTy (cr_setX rfl) (by rfl) T.set (by decide +kernel) (pa_cons (pv 1) pa_nil)) pa_nil)) pa_nil)))))), pure_fn (N := N_k15_else) rfl (Pu.sim_k15_else T.neb_Deeds (nfB_ok T.nfb_Deeds)) (by decide) (Pu.un_k15_else ▸ h)⟩), T._law_equal_to_nothing_else, F.kp, (FunD.bindsN F fun _ _ _ _ _ _ us hl => match us, hl with | [_, _, _], _ => rfl), .nil⟩
theorem Row.cp_Deeds (T : Row g mg base) : ClsP g "Deeds" := clsP_of (He.cls_ok (T.c.d.fact 13 rfl)) T.is_Deeds T.kt_Deeds (fun f hf => by
  rw [fl_Deeds] at hf
  simp only [List.mem_cons, List.not_mem_nil, or_false] at hf
  subst hf
  · exact He.noat_ok (T.c.d.fact 36 rfl))
theorem K_law (T : Row g mg base) {fd : FuncData} (F : FunD g.K d_k15_law.name d_k15_law.qual d_k15_law.params d_k15_law.body d_k15_law.scope [] [] (He.fAd g.K d_k15_law.at_) fd) : FnOk g.P g.w g.K mg base (L2.CX g.P g.w) 11 (He.ga g.K "law") fd P_k15_law (PSp g 1 Pu.F_k15_law) := by
  have C_law_cell := K_C_law_cell T
  have C_law_pool := K_C_law_pool T
  have C_law_draw := K_C_law_draw T
  have C_law_names := K_C_law_names T
  have C_k15_pick := K_C_k15_pick T
  have M_Deeds := K_M_Deeds T
  have N_Deeds_len := K_N_Deeds_len T
  have C_law_same := K_law_same T 8
  have N_Deeds_bool := K_N_Deeds_bool T
  have C_k15_flag := K_C_k15_flag T
  have N_Deeds_contains := K_N_Deeds_contains T
  have C_o_odd_name := K_C_o_odd_name T
  have C_k15_deep := K_C_k15_deep T
  have N_Deeds_eq := K_N_Deeds_eq T
  have N_Deeds_within := K_N_Deeds_within T
  have C_k15_else := K_C_k15_else T
  exact F.ok sc_k15_law (fun vs H Q E h => h.len) (fun cdv A outer s H vs Q E hr h => ⟨Pu.t_k15_law g E, (pss_cons (ps_set (i := 1) sc_k15_law.nd rfl (.inl rfl) (pe_calE C_law_pool (hr.mono (by decide)) (by rfl) (passes_call (takes_of rfl rfl rfl rfl) fun _ _ _ _ h => h) (pa_cons (pe_calE C_law_cell (hr.mono (by decide)) (by rfl) (passes_call (takes_of rfl rfl rfl rfl) fun _ _ _ _ h => h) (pa_cons (pv 0) (pa_cons pe_int pa_nil))) pa_nil))) (pss_cons (ps_set (i := 2) sc_k15_law.nd rfl (.inl rfl) (pe_calE C_law_draw (hr.mono (by decide)) (by rfl) (passes_call (takes_of rfl rfl rfl rfl) fun _ _ _ _ h => h) (pa_cons (pv 1) (pa_cons pe_int pa_nil)))) (pss_cons (ps_set (i := 3) sc_k15_law.nd rfl (.inl rfl) (pe_calE C_law_names (hr.mono (by decide)) (by rfl) (passes_call (takes_of rfl rfl rfl rfl) fun _ _ _ _ h => h) (pa_cons (pv 1) (pa_cons (pe_op o_addX pe_int (pe_calE C_law_draw (hr.mono (by decide)) (by rfl) (passes_call (takes_of rfl rfl rfl rfl) fun _ _ _ _ h => h) (pa_cons (pv 1) (pa_cons pe_int pa_nil)))) pa_nil)))) (pss_cons (ps_set (i := 4) sc_k15_law.nd rfl (.inl rfl) (pe_calE C_k15_pick (hr.mono (by decide)) (by rfl) (passes_call (takes_of rfl rfl rfl rfl) fun _ _ _ _ h => h) (pa_cons (pe_calE C_law_pool (hr.mono (by decide)) (by rfl) (passes_call (takes_of rfl rfl rfl rfl) fun _ _ _ _ h => h) (pa_cons (pe_calE C_law_cell (hr.mono (by decide)) (by rfl) (passes_call (takes_of rfl rfl rfl rfl) fun _ _ _ _ h => h) (pa_cons (pv 0) (pa_cons pe_int pa_nil))) pa_nil)) (pa_cons (pv 3) pa_nil)))) (pss_cons (ps_set (i := 5) sc_k15_law.nd rfl (.inr rfl) (pe_calE C_k15_pick (hr.mono (by decide)) (by rfl) (passes_call (takes_of rfl rfl rfl rfl) fun _ _ _ _ h => h) (pa_cons (pe_calE C_law_pool (hr.mono (by decide)) (by rfl) (passes_call (takes_of rfl rfl rfl rfl) fun _ _ _ _ h => h) (pa_cons (pe_calE C_law_cell (hr.mono (by decide)) (by rfl) (passes_call (takes_of rfl rfl rfl rfl) fun _ _ _ _ h => h) (pa_cons (pv 0) (pa_cons pe_int pa_nil))) pa_nil)) (pa_cons (pv 3) pa_nil)))) (pss_cons (ps_if (pt_cmpR (o_eqX hr) (pv 2) pe_int (nomark _)) (pss_one (ps_set (i := 5) sc_k15_law.nd rfl (.inr rfl) (pe_revL (pv 4)))) pss_nil) (pss_cons (ps_if (pt_cmpR (o_eqX hr) (pv 2) pe_int (nomark _)) (pss_one (ps_set (i := 5) sc_k15_law.nd rfl (.inr rfl) (pe_slice sl_X (pv 4) (po_some pe_int) po_none))) pss_nil) (pss_cons (ps_set (i := 6) sc_k15_law.nd rfl (.inl rfl) (pe_mkE M_Deeds (hr.mono (by decide)) (by rfl) (passes_call (takes_of rfl rfl rfl rfl) fun _ _ _ _ h => h) (pa_cons (pv 4) pa_nil))) (pss_cons (ps_set (i := 7) sc_k15_law.nd rfl (.inl rfl) (pe_mkE M_Deeds (hr.mono (by decide)) (by rfl) (passes_call (takes_of rfl rfl rfl rfl) fun _ _ _ _ h => h) (pa_cons (pe_callTy call_tuple_of (by rfl) T.tuple (by decide +kernel) (pa_cons (pv 5) pa_nil)) pa_nil))) (pss_cons (ps_if (pt_not (p_truth2 (pe_calE C_law_same (hr.mono (by decide)) (by rfl) (passes_call (takes_of rfl rfl rfl rfl) fun _ _ _ _ h => h) (pa_cons (pe_tup (pa_cons (pe_callB (call_lenO N_Deeds_len (hr.mono (by decide))) (by rfl) T.len PySem.boot_len (pa_cons (pv 6) pa_nil)) (pa_cons (pe_callB (call_lenO N_Deeds_len (hr.mono (by decide))) (by rfl) T.len PySem.boot_len (pa_cons (pv 7) pa_nil)) pa_nil))) (pa_cons (pe_tup (pa_cons (pe_callB call_lenT (by rfl) T.len PySem.boot_len (pa_cons (pe_callTy (cr_setX rfl) (by rfl) T.set (by decide +kernel) (pa_cons (pv 4) pa_nil)) pa_nil)) (pa_cons (pe_callB call_lenT (by rfl) T.len PySem.boot_len (pa_cons (pe_callTy (cr_setX rfl) (by rfl) T.set (by decide +kernel) (pa_cons (pv 5) pa_nil)) pa_nil)) pa_nil))) pa_nil))))) (pss_one (ps_ret pe_bl)) pss_nil) (pss_cons (ps_if (PW.pt (pw_or (pt_not (p_truth2 (pe_calE C_k15_flag (hr.mono (by decide)) (by rfl) (passes_call (takes_of rfl rfl rfl rfl) fun _ _ _ _ h => h) (pa_cons (pe_callTy (call_boolO N_Deeds_bool (hr.mono (by decide))) (by rfl) T.bool (by decide +kernel) (pa_cons (pv 6) pa_nil)) (pa_cons (pe_cmpR o_gt (pe_callB call_len2 (by rfl) T.len PySem.boot_len (pa_cons (pv 4) pa_nil)) pe_int (nomark _)) pa_nil))))) (pw_or1 (pt_not (p_truth2 (pe_calE C_k15_flag (hr.mono (by decide)) (by rfl) (passes_call (takes_of rfl rfl rfl rfl) fun _ _ _ _ h => h) (pa_cons (pe_callTy (call_boolO N_Deeds_bool (hr.mono (by decide))) (by rfl) T.bool (by decide +kernel) (pa_cons (pe_mkE M_Deeds (hr.mono (by decide)) (by rfl) (passes_call (takes_of rfl rfl rfl rfl) fun _ _ _ _ h => h) (pa_cons (pe_tup pa_nil) pa_nil)) pa_nil)) (pa_cons pe_bl pa_nil)))))))) (pss_one (ps_ret pe_bl)) pss_nil) (pss_cons (ps_for (passes_of rfl) rfl (pi_seq2 (pe_op o_addX (pv 3) (pe_lst (pa_cons (pe_op o_addX (pe_ix (ix_2 hr) (pv 3) pe_int (fun _ _ => rfl)) pe_str) (pa_cons (pe_slice sl_X (pe_ix (ix_2 hr) (pv 3) pe_int (fun _ _ => rfl)) (po_some pe_int) po_none) (pa_cons pe_str pa_nil)))))) (pg_name (i := 8) sc_k15_law.nd rfl (.inl rfl)) (pss_one (ps_if (PW.pt (pw_or (pt_not (p_truth2 (pe_calE C_k15_flag (hr.mono (by decide)) (by rfl) (passes_call (takes_of rfl rfl rfl rfl) fun _ _ _ _ h => h) (pa_cons (pe_cmpR (o_inO N_Deeds_contains (hr.mono (by decide))) (pv 8) (pv 6) (by rfl)) (pa_cons (pe_cmpR (o_inX hr) (pv 8) (pv 4) (by rfl)) pa_nil))))) (pw_or1 (pt_not (p_truth2 (pe_calE C_k15_flag (hr.mono (by decide)) (by rfl) (passes_call (takes_of rfl rfl rfl rfl) fun _ _ _ _ h => h) (pa_cons (pe_cmpR (o_notInO N_Deeds_contains (hr.mono (by decide))) (pv 8) (pv 7) (by rfl)) (pa_cons (pe_cmpR (o_notInX hr) (pv 8) (pv 5) (by rfl)) pa_nil)))))))) (pss_one (ps_ret pe_bl)) pss_nil))) (pss_cons (ps_for (passes_of rfl) rfl (pi_range1 (by rfl) T.range (pa_cons pe_int pa_nil)) (pg_name (i := 9) sc_k15_law.nd rfl (.inl rfl)) (pss_cons (ps_set (i := 10) sc_k15_law.nd rfl (.inl rfl) (pe_calE C_o_odd_name (hr.mono (by decide)) (by rfl) (passes_call (takes_of rfl rfl rfl rfl) fun _ _ _ _ h => h) (pa_cons (pv 9) pa_nil))) (pss_one (ps_if (pt_not (p_truth2 (pe_calE C_k15_flag (hr.mono (by decide)) (by rfl) (passes_call (takes_of rfl rfl rfl rfl) fun _ _ _ _ h => h) (pa_cons (pe_cmpR (o_inO N_Deeds_contains (hr.mono (by decide))) (pv 10) (pv 6) (by rfl)) (pa_cons pe_bl pa_nil))))) (pss_one (ps_ret pe_bl)) pss_nil)))) (pss_cons (ps_if (PW.pt (pw_or (pt_not (p_truth2 (pe_calE C_k15_flag (hr.mono (by decide)) (by rfl) (passes_call (takes_of rfl rfl rfl rfl) fun _ _ _ _ h => h) (pa_cons (pe_cmpR (o_inO N_Deeds_contains (hr.mono (by decide))) (pe_calE C_k15_deep (hr.mono (by decide)) (by rfl) (passes_call (takes_of rfl rfl rfl rfl) fun _ _ _ _ h => h) (pa_cons (pe_ix (ix_2 hr) (pv 3) pe_int (fun _ _ => rfl)) pa_nil)) (pv 6) (by rfl)) (pa_cons pe_bl pa_nil))))) (pw_or1 (pt_not (p_truth2 (pe_calE C_k15_flag (hr.mono (by decide)) (by rfl) (passes_call (takes_of rfl rfl rfl rfl) fun _ _ _ _ h => h) (pa_cons (pe_cmpR (o_eqO N_Deeds_eq.calQ (hr.mono (by decide))) (pv 6) (pe_calE C_k15_deep (hr.mono (by decide)) (by rfl) (passes_call (takes_of rfl rfl rfl rfl) fun _ _ _ _ h => h) (pa_cons pe_int pa_nil)) (nomark _)) (pa_cons pe_bl pa_nil)))))))) (pss_one (ps_ret pe_bl)) pss_nil) (pss_cons (ps_set (i := 11) sc_k15_law.nd rfl (.inl rfl) (pe_cmpR (o_eqX hr) (pe_callB call_len2 (by rfl) T.len PySem.boot_len (pa_cons (pe_lc (own := [("_law_word", 8)]) (by rfl) sc_k15_law.nd (pi_seq2 (pv 4)) (blkOk_by (own := [("_law_word", 8)]) (N := N_k15_law) (sc := defScope s_k15_law) (by decide +kernel)) (fun _ _ _ _ _ => (pg_name (i := 8) sc_k15_law.nd rfl (.inl rfl))) (fun _ _ _ _ _ => (pts_one (pt_cmpR (o_notInX hr) (pv 8) (pv 5) (by rfl)))) (fun _ _ _ _ _ => (pv 8))) pa_nil)) pe_int (nomark _))) (pss_cons (ps_if (PW.pt (pw_or (pt_not (p_truth2 (pe_calE C_k15_flag (hr.mono (by decide)) (by rfl) (passes_call (takes_of rfl rfl rfl rfl) fun _ _ _ _ h => h) (pa_cons (pe_meE N_Deeds_within (pv 6) (hr.mono (by decide)) (passes_call (takes_of rfl rfl rfl rfl) fun _ _ _ _ h => h) (pa_cons (pv 7) pa_nil)) (pa_cons (pv 11) pa_nil))))) (pw_or1 (pt_not (p_truth2 (pe_calE C_k15_flag (hr.mono (by decide)) (by rfl) (passes_call (takes_of rfl rfl rfl rfl) fun _ _ _ _ h => h) (pa_cons (pe_meE N_Deeds_within (pv 6) (hr.mono (by decide)) (passes_call (takes_of rfl rfl rfl rfl) fun _ _ _ _ h => h) (pa_cons (pe_callTy (call_list2 rfl) (by rfl) T.list (by decide +kernel) (pa_cons (pv 5) pa_nil)) pa_nil)) (pa_cons (pv 11) pa_nil)))))))) (pss_one (ps_ret pe_bl)) pss_nil) (pss_cons (ps_if (PW.pt (pw_or (pt_not (p_truth2 (pe_calE C_k15_flag (hr.mono (by decide)) (by rfl) (passes_call (takes_of rfl rfl rfl rfl) fun _ _ _ _ h => h) (pa_cons (pe_meE N_Deeds_within (pe_mkE M_Deeds (hr.mono (by decide)) (by rfl) (passes_call (takes_of rfl rfl rfl rfl) fun _ _ _ _ h => h) (pa_cons (pe_lst pa_nil) pa_nil)) (hr.mono (by decide)) (passes_call (takes_of rfl rfl rfl rfl) fun _ _ _ _ h => h) (pa_cons (pv 7) pa_nil)) (pa_cons pe_bl pa_nil))))) (pw_or1 (pt_not (p_truth2 (pe_calE C_k15_flag (hr.mono (by decide)) (by rfl) (passes_call (takes_of rfl rfl rfl rfl) fun _ _ _ _ h => h) (pa_cons (pe_meE N_Deeds_within (pv 6) (hr.mono (by decide)) (passes_call (takes_of rfl rfl rfl rfl) fun _ _ _ _ h => h) (pa_cons (pe_callTy call_tuple_of (by rfl) T.tuple (by decide +kernel) (pa_cons (pv 4) pa_nil)) pa_nil)) (pa_cons pe_bl pa_nil)))))))) (pss_one (ps_ret pe_bl)) pss_nil) (pss_cons (ps_set (i := 12) sc_k15_law.nd rfl (.inl rfl) (pe_cmpR (o_eqSt hr) (pe_callTy (cr_setX rfl) (by rfl) T.set (by decide +kernel) (pa_cons (pv 4) pa_nil)) (pe_callTy (cr_setX rfl) (by rfl) T.set (by decide +kernel) (pa_cons (pv 5) pa_nil)) (nomark _))) (pss_cons (ps_if (PW.pt (pw_or (pt_not (p_truth2 (pe_calE C_k15_flag (hr.mono (by decide)) (by rfl) (passes_call (takes_of rfl rfl rfl rfl) fun _ _ _ _ h => h) (pa_cons (pe_cmpR (o_eqO N_Deeds_eq.calQ (hr.mono (by decide))) (pv 6) (pv 7) (nomark _)) (pa_cons (pv 12) pa_nil))))) (pw_or1 (pt_not (p_truth2 (pe_calE C_k15_flag (hr.mono (by decide)) (by rfl) (passes_call (takes_of rfl rfl rfl rfl) fun _ _ _ _ h => h) (pa_cons (pe_cmpR (o_neOX N_Deeds_eq.calQ T.neb_Deeds (hr.mono (by decide))) (pv 6) (pv 7) (nomark _)) (pa_cons (pe_not (pv 12)) pa_nil)))))))) (pss_one (ps_ret pe_bl)) pss_nil) (pss_one (ps_ret (pe_calE C_k15_else (hr.mono (by decide)) (by rfl) (passes_call (takes_of rfl rfl rfl rfl) fun _ _ _ _ h => h) (pa_cons (pv 6) (pa_cons (pv 4) (pa_cons (pv 3) pa_nil))))))))))))))))))))))))), pure_fn (N := N_k15_law) rfl (Pu.sim_k15_law T.cp_Deeds T.neb_Deeds (nfB_ok T.nfb_Deeds)) (by decide) (Pu.un_k15_law ▸ h)⟩)
end
abbrev R : PySem.W.OpenRow := PySem.W.OpenLaw.row PySem.Challenge.rw_surelydone_k15_deeds_asked
def adr : List Addr := ([3, 6, 4, 21, 28, 38, 58, 67, 179, 190, 197, 204, 211, 216, 223, 228, 235, 242, 249, 256, 261, 0, 20, 27, 37, 57, 66, 178, 189, 196] : List Addr) ++ ([203, 210, 215, 222, 227, 234, 241, 248, 255, 260, 15, 16, 17, 18, 19, 22, 23, 24, 25, 26, 36, 39, 55, 56, 61, 62, 63, 64, 65, 83] : List Addr) ++ ([90, 97, 104, 111, 118, 125, 132, 139, 144, 149, 154, 159, 166, 171, 176, 177, 180, 181, 184, 185, 186, 187, 188, 191, 192, 193, 194, 195, 198, 199] : List Addr) ++ ([200, 201, 202, 205, 206, 207, 208, 209, 212, 213, 214, 217, 218, 219, 220, 221, 224, 225, 226, 229, 230, 231, 232, 233, 236, 237, 238, 239, 240, 243] : List Addr) ++ ([244, 245, 246, 247, 250, 251, 252, 253, 254, 257, 259, 54, 82, 76, 89, 96, 103, 110, 117, 124, 131, 138, 143, 148, 153, 158, 165, 170, 175, 49] : List Addr) ++ ([50, 51, 52, 53, 77, 78, 79, 80, 81, 75, 84, 85, 86, 87, 88, 91, 92, 93, 94, 95, 98, 99, 100, 101, 102, 105, 106, 107, 108, 109] : List Addr) ++ ([112, 113, 114, 115, 116, 119, 120, 121, 122, 123, 126, 127, 128, 129, 130, 133, 134, 135, 136, 137, 140, 141, 142, 145, 146, 147, 150, 151, 152, 155] : List Addr) ++ ([156, 157, 160, 161, 162, 163, 164, 167, 168, 169, 172, 173, 174] : List Addr)
abbrev hk : PySem.W.Hook := hookT adr fa fn ex
def ob (s : PySem.W.SharedT) : (He.AlD × Bool) × Bool := obsT adr fa fn ex (HandSHeadRun.getT s)
theorem ob_eq (s : PySem.W.SharedT) : ob s = hk.obs s.abs := obsT_eq (HandSHeadRun.getT_eq s)
abbrev loose : List Str := (["__name__", "LETTERS", "is_name", "is_row", "DoneError", "BadWords", "words_of_row", "Deeds", "_law_cell", "_law_pool", "_law_draw", "_law_name", "_law_names", "_law_same", "_law_pick", "_law_odd_name", "_law_deep", "_law_flag", "_law_equal_to_nothing_else"] : List Str)
open HandSHeadRun PySem.W in
theorem run1 (w : World) (os : OsState) : (endF (stepQ (denQ tabQ) R.prog w) 9000 R.prog w os).map (fun s => looksF R.prog (boot_heap w.params) s.abs) = some true := by
  kernel_rfl
open HandSHeadRun PySem.W in
theorem run2 (w : World) (os : OsState) : (endF (stepQ (denQ tabQ) R.prog w) 9000 R.prog w os).map (fun s => seenQ (PySem.W.view R.prog [22]) loose (importedModules R.prog.main.body) (fun s => xlAt (PySem.W.view R.prog [22]) [] s && recOk R.toRowW.records s) s.abs) = some (openGood (PySem.W.view R.prog [22]) loose) := by
  kernel_rfl
open HandSHeadRun PySem.W in
theorem run3 (w : World) (os : OsState) : (endF (stepQ (denQ tabQ) R.prog w) 9000 R.prog w os).map (fun s => partA adr fa ex (getT s)) = some (true, true) := by
  kernel_rfl
open HandSHeadRun PySem.W in
theorem run4 (w : World) (os : OsState) : (endF (stepQ (denQ tabQ) R.prog w) 9000 R.prog w os).map (fun s => partF adr fn1 (getT s)) = some (He.valD fn1) := by
  kernel_rfl
open HandSHeadRun PySem.W in
theorem run5 (w : World) (os : OsState) : (endF (stepQ (denQ tabQ) R.prog w) 9000 R.prog w os).map (fun s => partF adr fn2 (getT s)) = some (He.valD fn2) := by
  kernel_rfl
open HandSHeadRun PySem.W in
theorem run6 (w : World) (os : OsState) : (endF (stepQ (denQ tabQ) R.prog w) 9000 R.prog w os).map (fun s => tbB (He.frG (getT s) adr) (getT s)) = some true := by
  kernel_rfl
theorem run (w : World) : HandSHeadRun.RunEq R (PySem.W.view R.prog [22]) hk ob 9000 loose w := run_of (run1 w) (run2 w) fun os => obsT_of (obs_of (run3 w os) (run4 w os) (run5 w os)) (run6 w os)
theorem facts {P : Program} {w : World} {K : PySem.W.Frag} {h : Heap} {mg : Str → Option Value} {f : Addr} (X : K.In h) (G : h.Ns mainGlobals mg) (hfa : mg ("law" : Str) = some (.ref f)) (c : SaysE fa fn ex K) :
    ∃ fd : FuncData, (∀ (s : Shared) (v : Value), BindsTo s fd ⟨[v], []⟩ [("_law_script", v)]) ∧ ∀ base : Heap, K.In base → base.Ns mainGlobals mg → TbBs K base mg → FnOk P w K mg base (L2.CX P w) 11 f fd P_k15_law (sp_k15_law ⟨K, P, w⟩) := by
  obtain ⟨fd, F⟩ := c.d.def_ 22 (d := d_k15_law) rfl
  have e := hfa.symm.trans (He.glo_ok X G (c.d.fact 37 (f := .glo "law") rfl))
  cases e
  have b := FunD.bindsA (ps := P_k15_law) F fun _ _ _ _ _ _ us hl => match us, hl with | [_], _ => rfl
  exact ⟨fd, fun s v => b s [v] rfl, fun base hb gb tb => K_law (g := ⟨K, P, w⟩) ⟨c, hb, gb, tb⟩ F⟩
end K15R
open PySem PySem.W PySem.Calls PyProof.Rows
theorem PySem.Challenge.cw_surelydone_k15_deeds_asked_holds : PySem.Challenge.rw_surelydone_k15_deeds_asked.Holds := by
  w_on; o_law
  refine HandSHeadRun.head_any (r := OpenLaw.row PySem.Challenge.rw_surelydone_k15_deeds_asked) (q := view (OpenLaw.row PySem.Challenge.rw_surelydone_k15_deeds_asked).prog [22]) (H := K15R.hk) (ob := K15R.ob) (M := 9000) (loose := K15R.loose) (d := HandSHeadRun.topDef (OpenLaw.row PySem.Challenge.rw_surelydone_k15_deeds_asked).prog 22) (kwd := []) K15R.ob_eq
    (by kernel_rfl) (fun s => by kernel_rfl) K15R.run (by kernel_rfl) (by kernel_rfl) (by kernel_rfl) (by rfl) (by first | assumption | decide +kernel) (by decide +kernel) ⟨rfl, rfl, rfl, rfl, rfl, by decide +kernel⟩ ?hw ?hc
  case hw => w_witness2
  case hc =>
    refine Sd.walkT (l := PySem.Challenge.rw_surelydone_k15_deeds_asked) (n := 63) (k := 11) (x := "_law_script") rfl (by decide) (by kernel_rfl) ⟨rfl, by decide, by decide⟩ ?F
    intro w mg fa h Y G hmg0
    obtain ⟨K, KX, c, tbh⟩ := Y
    have hmg : mg ("law" : PySem.Str) = some (.ref fa) := by
      have e : (HandSHeadRun.topDef (OpenLaw.row PySem.Challenge.rw_surelydone_k15_deeds_asked).prog 22).name = ("law" : PySem.Str) := by kernel_rfl
      rw [← e]
      exact hmg0
    obtain ⟨fd, hb, hF⟩ := K15R.facts (P := (PySem.Challenge.rw_surelydone_k15_deeds_asked).prog) (w := w) KX G hmg c
    exact ⟨K, fd, Sd.sp_k15_law ⟨K, (PySem.Challenge.rw_surelydone_k15_deeds_asked).prog, w⟩, KX, tbh, hb, fun H a ns hl hbt hT hS => Sd.psp_law (Sd.tb0_of tbh hT) hS (Sd.Pu.k15_holds ns hl), hF⟩
