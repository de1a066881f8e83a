import PyProof.Rows.All
import Wide.All
import OpenK.AllK
import Wide.FinOn
import KE.KStateDown
import Lean
import HandS.ForMost
import HandS.ForExc
import HandS.Defaults
import HandS.ExcField
import HandS.ExcInit
import HandS.Head0
import HandS.Head1
import HandS.Head2
import HandS.EndBits
import HandS.HeadEnd
import HandS.HeadHook1
import HandS.HeadHook2
import HandS.Set
import HandS.Strs
import HandS.SetBool
import PyProof.Rows.SortShellAny
import HandS.TupSets
import KE.GoesMore
import HandS.TupAny
import HandS.SortInts
import HandS.Deep
import HandS.Wide
import HandS.IsInst
import HandS.Steps
import HandS.Flow
import HandS.TryMany
import HandS.Conv
import HandS.SetFor
import HandS.TupMul
import PySem.Challenge.RW_surelydone_k08_whole_moves_behind_and_ab
set_option linter.all false
set_option maxRecDepth 100000
set_option Elab.async false
set_option maxHeartbeats 0
namespace Sd
open PySem PySem.Spec PyProof.Rows L2
/-! the head's facts with one more Bool over the written part -/
structure SaysE (fa : List He.Fa) (fn : List He.DefD) (ex : PySem.W.Frag → Bool) (K : PySem.W.Frag) : Prop where
  d : He.SaysD fa fn K
  x : ex K = true
def obsE (n : Nat) (fa : List He.Fa) (fn : List He.DefD) (ex : PySem.W.Frag → Bool) (g : Addr → Option Obj) : He.AlD × Bool := (He.obsD fa fn (He.frG g (He.asD g n)), ex (He.frG g (He.asD g n)))
def hookE (n : Nat) (fa : List He.Fa) (fn : List He.DefD) (ex : PySem.W.Frag → Bool) : PySem.W.Hook where
  α := He.AlD × Bool
  obs := fun s => obsE n fa fn ex s.heap.get?
  val := fun _ => (He.valD fn, true)
  says := fun _ h => ∃ K : PySem.W.Frag, K.In h ∧ SaysE fa fn ex K
  of := fun _ s e => ⟨_, He.frG_in, congrArg (fun z : He.AlD × Bool => z.1) e, congrArg (fun z : He.AlD × Bool => z.2) e⟩
  keeps := fun _ _ _ ⟨K, hK, c⟩ k => ⟨K, PySem.W.Frag.In.keeps hK k, c⟩
theorem obsE_eq {n : Nat} {fa : List He.Fa} {fn : List He.DefD} {ex : PySem.W.Frag → Bool} {g : Addr → Option Obj} {s : Shared} (h : ∀ a, g a = s.heap.get? a) : obsE n fa fn ex g = (hookE n fa fn ex).obs s := by
  have e : g = s.heap.get? := funext h
  rw [e]; rfl
/-- the end of a law: the script's numbers have at most 2^20 bits -/
theorem walkE {l : PySem.W.OpenLaw} {n k : Nat} {q : Program} {loose : List Str} {XP : (Str → Option Value) → Heap → Prop} {YP : World → Heap → Prop} {d : DefRec} {CX : CXT} {x : Str}
    (hn : l.most = some n) (hn2 : n ≤ sizeLine) (hdf : d.params.defaults = []) (hr : Room k callerA)
    (F : ∀ (w : World) (mg : Str → Option Value) (fa : Addr) (h : Heap), YP w h → h.Ns mainGlobals mg → mg d.name = some (.ref fa) →
      ∃ (K : PySem.W.Frag) (fd : FuncData) (sp : Sp), K.In h ∧ (∀ (s : Shared) (u : Value), BindsTo s fd ⟨[u], []⟩ [(x, u)]) ∧
        (∀ (H : Hp) (a : Addr) (ns : List Int), ns.length ≤ n → (∀ i ∈ ns, Builtin.Int.intBits i ≤ 1048576) → SqL K H a (ns.map V.int) → sp [.ref a] H (fun v _ => v = .bl true) fun _ _ _ => False) ∧
        ∀ base : Heap, K.In base → base.Ns mainGlobals mg → FnOk l.prog w K mg base CX k fa fd [x] sp)
    (hCX : ∀ (H : Hp) (s : Shared) (e : Value) (s' : Shared), CX [] H s (fun _ _ _ => False) e s' → False) :
    PySem.W.WalkO q loose XP YP l.row.toRowW d [] (fun f vs => PySem.call f vs) := by
  refine Att.attach_callB hn hdf fun w s₀ s₁ mg mb fa o pm cd doc a vs ns G Y ho hd hcd hmg hobj hints hlen hbits hg => ?_
  obtain ⟨K, fd, sp, KX, hb, hsp, hF⟩ := F w mg fa _ Y G.T.g hmg
  exact law_call KX G.T.g G.T.b G.T.builtins G.T.nolimit hg hobj hints (Nat.le_trans hlen hn2) hr hF hb (fun H _ hS => hsp H a ns hlen hbits hS) fun H e s' => hCX H s₁ e s'
end Sd
namespace Sd
open PySem L2
/-! texts in order, without repetitions -/
abbrev tl (a : Str) : List Nat := a.cps.toList
theorem tl_inj {a b : Str} (h : tl a = tl b) : a = b := by
  obtain ⟨⟨x⟩⟩ := a; obtain ⟨⟨y⟩⟩ := b
  simp only [tl] at h; subst h; rfl
def ltT (a b : Str) : Prop := tl a < tl b
instance (a b : Str) : Decidable (ltT a b) := inferInstanceAs (Decidable (tl a < tl b))
theorem ltT_irr (a : Str) : ¬ ltT a a := List.lt_irrefl (tl a)
theorem ltT_tr {a b c : Str} (h : ltT a b) (k : ltT b c) : ltT a c := List.lt_trans h k
theorem ltT_tot {a b : Str} (h : ¬ ltT a b) (n : a ≠ b) : ltT b a := by
  refine Decidable.byContradiction fun k => n (tl_inj ?_)
  exact List.le_antisymm (List.not_lt.mp k) (List.not_lt.mp h)
def insU (z : Str) : List Str → List Str
  | [] => [z]
  | x :: r => if z = x then x :: r else if ltT z x then z :: x :: r else x :: insU z r
def uniq : List Str → List Str
  | [] => []
  | z :: r => insU z (uniq r)
def Asc (l : List Str) : Prop := l.Pairwise ltT
theorem mem_insU {z y : Str} : ∀ {l : List Str}, y ∈ insU z l ↔ y = z ∨ y ∈ l
  | [] => by simp [insU]
  | x :: r => by
    unfold insU
    split
    · rename_i e; subst e; simp
    · split
      · simp
      · rw [List.mem_cons, mem_insU, List.mem_cons]
        constructor
        · rintro (h | h | h)
          · exact .inr (.inl h)
          · exact .inl h
          · exact .inr (.inr h)
        · rintro (h | h | h)
          · exact .inr (.inl h)
          · exact .inl h
          · exact .inr (.inr h)
theorem mem_uniq {y : Str} : ∀ {l : List Str}, y ∈ uniq l ↔ y ∈ l
  | [] => Iff.rfl
  | z :: r => by rw [uniq, mem_insU, mem_uniq, List.mem_cons]
theorem asc_insU {z : Str} : ∀ {l : List Str}, Asc l → Asc (insU z l)
  | [], _ => List.pairwise_singleton _ _
  | x :: r, h => by
    have h1 := List.pairwise_cons.mp h
    unfold insU
    split
    · exact h
    · rename_i ne
      split
      · rename_i lt
        refine List.pairwise_cons.mpr ⟨fun y hy => ?_, h⟩
        rcases List.mem_cons.mp hy with e | hy
        · rw [e]; exact lt
        · exact ltT_tr lt (h1.1 y hy)
      · rename_i nl
        refine List.pairwise_cons.mpr ⟨fun y hy => ?_, asc_insU h1.2⟩
        rcases mem_insU.mp hy with e | hy
        · rw [e]; exact ltT_tot nl ne
        · exact h1.1 y hy
theorem asc_uniq : ∀ l : List Str, Asc (uniq l)
  | [] => List.Pairwise.nil
  | z :: r => asc_insU (asc_uniq r)
theorem asc_ext : ∀ {l m : List Str}, Asc l → Asc m → (∀ y, y ∈ l ↔ y ∈ m) → l = m
  | [], [], _, _, _ => rfl
  | [], b :: m, _, _, h => absurd ((h b).mpr List.mem_cons_self) (by simp)
  | a :: l, [], _, _, h => absurd ((h a).mp List.mem_cons_self) (by simp)
  | a :: l, b :: m, hl, hm, h => by
    have l1 := List.pairwise_cons.mp hl
    have m1 := List.pairwise_cons.mp hm
    have e : a = b := by
      rcases List.mem_cons.mp ((h a).mp List.mem_cons_self) with e | e
      · exact e
      · rcases List.mem_cons.mp ((h b).mpr List.mem_cons_self) with f | f
        · exact f.symm
        · exact absurd (ltT_tr (l1.1 b f) (m1.1 a e)) (ltT_irr a)
    subst e
    refine congrArg (a :: ·) (asc_ext l1.2 m1.2 fun y => ⟨fun hy => ?_, fun hy => ?_⟩)
    · rcases List.mem_cons.mp ((h y).mp (List.mem_cons_of_mem _ hy)) with e | e
      · subst e; exact absurd (l1.1 y hy) (ltT_irr y)
      · exact e
    · rcases List.mem_cons.mp ((h y).mpr (List.mem_cons_of_mem _ hy)) with e | e
      · subst e; exact absurd (m1.1 y hy) (ltT_irr y)
      · exact e
theorem uniq_eq {l m : List Str} (hl : Asc l) (h : ∀ y, y ∈ l ↔ y ∈ m) : l = uniq m := asc_ext hl (asc_uniq m) fun y => (h y).trans mem_uniq.symm
theorem uniq_congr {l m : List Str} (h : ∀ y, y ∈ l ↔ y ∈ m) : uniq l = uniq m := uniq_eq (asc_uniq l) fun y => mem_uniq.trans (h y)
theorem uniq_asc {l : List Str} (h : Asc l) : uniq l = l := (uniq_eq h fun _ => Iff.rfl).symm
theorem uniq_uniq (l : List Str) : uniq (uniq l) = uniq l := uniq_asc (asc_uniq l)
theorem insU_len (z : Str) : ∀ l : List Str, (insU z l).length ≤ l.length + 1
  | [] => Nat.le_refl _
  | x :: r => by
    unfold insU
    split
    · exact Nat.le_succ _
    · split
      · exact Nat.le_refl _
      · exact Nat.succ_le_succ (insU_len z r)
theorem uniq_len : ∀ l : List Str, (uniq l).length ≤ l.length
  | [] => Nat.le_refl _
  | z :: r => Nat.le_trans (insU_len z _) (Nat.succ_le_succ (uniq_len r))
theorem asc_nodup {l : List Str} (h : Asc l) : l.Nodup := by
  refine List.Pairwise.imp ?_ h
  intro a b k e
  subst e
  exact ltT_irr _ k
/-- the library's «sorted» of texts without repetitions rises -/
theorem rising_asc : ∀ (l : List Str) (p : Str), PyProof.Rows.risingS p l = true → (p :: l).Nodup → Asc (p :: l)
  | [], _, _, _ => List.pairwise_singleton _ _
  | x :: r, p, h, nd => by
    unfold PyProof.Rows.risingS at h
    have h1 := Bool.and_eq_true_iff.mp h
    have nd1 := List.nodup_cons.mp nd
    have ih := rising_asc r x h1.2 nd1.2
    have lt : ltT p x := by
      have q : ¬ ltT x p := by
        have z := h1.1
        rw [PyProof.Rows.ltCps_eq] at z
        simpa [ltT] using z
      exact ltT_tot q fun e => nd1.1 (e ▸ List.mem_cons_self)
    refine List.pairwise_cons.mpr ⟨fun y hy => ?_, ih⟩
    rcases List.mem_cons.mp hy with e | hy
    · rw [e]; exact lt
    · exact ltT_tr lt ((List.pairwise_cons.mp ih).1 y hy)
theorem sorted_asc {l : List Str} (h : PyProof.Rows.sortedS l = true) (nd : l.Nodup) : Asc l := by
  cases l with
  | nil => exact List.Pairwise.nil
  | cons p l => exact rising_asc l p h nd
end Sd
namespace Sd
open PySem PySem.Spec PyProof.Rows L2
/-! sets of texts: the members ks in some order -/
def TxE (w : World) (e : Int × Value) (z : Str) : Prop := (∃ tk, e.2 = Value.str z tk) ∧ e.1 = hashStr w z
structure TxSet (w : World) (ks : List Str) (es : Array (Int × Value)) (t : SetTable) : Prop where
  els : ∃ zs, Paired (TxE w) es.toList zs ∧ zs.Perm ks
  nd : ks.Nodup
  bd : ks.length < scanBound
  ft : t.fits es.size = true
  ri : Ris t.place.toList
  ld : w.params.followText "set-order" = true ∨ t.led = true
def SetX (w : World) (h : Heap) (a : Addr) (ks : List Str) : Prop :=
  ∃ o es ep t, h.get? a = some o ∧ o.ExactSet ∧ o.data = .set es ep t ∧ TxSet w ks es t
section
variable {P : Program} {w : World} {ks : List Str} {es : Array (Int × Value)} {t : SetTable}
theorem paired_mem {α β : Type} {F : α → β → Prop} : ∀ {l : List α} {m : List β}, Paired F l m → ∀ a ∈ l, ∃ b ∈ m, F a b
  | _, _, .nil, _, h => by cases h
  | _, _, .cons r q, a, h => by
    rcases List.mem_cons.mp h with rfl | h
    · exact ⟨_, List.mem_cons_self, r⟩
    · obtain ⟨b, hb, f⟩ := paired_mem q a h
      exact ⟨b, List.mem_cons_of_mem _ hb, f⟩
theorem paired_mem' {α β : Type} {F : α → β → Prop} : ∀ {l : List α} {m : List β}, Paired F l m → ∀ b ∈ m, ∃ a ∈ l, F a b
  | _, _, .nil, _, h => by cases h
  | _, _, .cons r q, b, h => by
    rcases List.mem_cons.mp h with rfl | h
    · exact ⟨_, List.mem_cons_self, r⟩
    · obtain ⟨a, ha, f⟩ := paired_mem' q b h
      exact ⟨a, List.mem_cons_of_mem _ ha, f⟩
theorem paired_perm {α β : Type} {F : α → β → Prop} {l l' : List α} (p : l.Perm l') : ∀ {m : List β}, Paired F l m → ∃ m', Paired F l' m' ∧ m.Perm m' := by
  induction p with
  | nil => intro m h; exact ⟨m, h, .refl _⟩
  | cons x _ ih =>
    intro m h
    cases h with
    | cons r q =>
      obtain ⟨m', a, b⟩ := ih q
      exact ⟨_, .cons r a, b.cons _⟩
  | swap x y l =>
    intro m h
    cases h with
    | cons r q =>
      cases q with
      | cons r' q' => exact ⟨_, .cons r' (.cons r q'), .swap _ _ _⟩
  | trans _ _ ih1 ih2 =>
    intro m h
    obtain ⟨m1, a, b⟩ := ih1 h
    obtain ⟨m2, c, d⟩ := ih2 a
    exact ⟨m2, c, b.trans d⟩
theorem TxE.is {e : Int × Value} {z : Str} (h : TxE w e z) (y : Str) : (PySem.strKind P w).is y e.2 = decide (y = z) := by
  obtain ⟨⟨tk, q⟩, _⟩ := h
  rw [q]
  exact (PySem.strKind P w).is_eq_decide (strKind_is P w z tk) y
theorem TxSet.elems (x : TxSet w ks es t) : ElemsOf (PySem.strKind P w) es.toList := fun e he => by
  obtain ⟨zs, pz, _⟩ := x.els
  obtain ⟨z, _, ⟨tk, q⟩, hh⟩ := paired_mem pz e he
  exact ⟨⟨z, by rw [q]; exact strKind_is P w z tk, hh⟩, by rw [q]; rfl⟩
theorem TxSet.size (x : TxSet w ks es t) : es.size = ks.length := by
  obtain ⟨zs, pz, pk⟩ := x.els
  rw [← pk.length_eq, ← pz.length, Array.length_toList]
theorem TxSet.has (x : TxSet w ks es t) (y : Str) : (∃ e ∈ es.toList, (PySem.strKind P w).is y e.2 = true) ↔ y ∈ ks := by
  obtain ⟨zs, pz, pk⟩ := x.els
  constructor
  · rintro ⟨e, he, q⟩
    obtain ⟨z, hz, f⟩ := paired_mem pz e he
    rw [f.is, decide_eq_true_eq] at q
    rw [q]; exact pk.mem_iff.mp hz
  · intro hy
    obtain ⟨e, he, f⟩ := paired_mem' pz y (pk.mem_iff.mpr hy)
    exact ⟨e, he, by rw [f.is]; exact decide_eq_true rfl⟩
end
def addT (ks : List Str) (z : Str) : List Str := if z ∈ ks then ks else z :: ks
theorem mem_addT {ks : List Str} {z y : Str} : y ∈ addT ks z ↔ y = z ∨ y ∈ ks := by
  unfold addT
  split
  · rename_i h
    exact ⟨.inr, fun q => q.elim (fun e => e ▸ h) id⟩
  · exact List.mem_cons
theorem nd_addT {ks : List Str} {z : Str} (h : ks.Nodup) : (addT ks z).Nodup := by
  unfold addT
  split
  · exact h
  · rename_i n
    exact List.nodup_cons.mpr ⟨n, h⟩
theorem len_addT (ks : List Str) (z : Str) : (addT ks z).length ≤ ks.length + 1 := by
  unfold addT
  split
  · exact Nat.le_succ _
  · exact Nat.le_refl _
section
variable {P : Program} {w : World} {A : Around} {E : Value → Shared → Prop} {s : Shared} {a : Addr} {ks : List Str}
theorem SetX.at {h h' : Heap} (R : SetX w h a ks) (k : ∀ o, h.get? a = some o → h'.get? a = some o) : SetX w h' a ks := by
  obtain ⟨o, es, ep, t, ho, r⟩ := R
  exact ⟨o, es, ep, t, k o ho, r⟩
theorem SetX.lt {h : Heap} (R : SetX w h a ks) : a < h.objs.size := by
  obtain ⟨_, _, _, _, ho, _⟩ := R
  exact Heap.lt_size ho
theorem SetX.fresh {h : Heap} (w : World) : SetX w (h.push { cls := .type "set", dict := none, data := .set #[] 0 (.fresh 0 0 (!w.params.followText "set-order")) }) h.objs.size [] := by
  refine ⟨_, #[], 0, _, Heap.get?_push_size _ rfl, ⟨rfl, rfl, rfl⟩, rfl, ⟨[], .nil, .refl _⟩, List.nodup_nil, by decide, by rfl, List.Pairwise.nil, ?_⟩
  by_cases q : w.params.followText "set-order" = true
  · exact .inl q
  · refine .inr ?_
    show (!w.params.followText "set-order") = true
    rw [Bool.not_eq_true] at q
    rw [q]; rfl
/-- the entries are stored, and laid anew if there are too many -/
theorem tx_store {gv : Bool → Sem Unit} (hg : ∀ (b : Bool) (s₁ : Shared) (Q' : Unit → Shared → Prop), Q' () s₁ → wpAny (model P w) A (gv b) Q' E s₁)
    {o : Obj} {es : Array (Int × Value)} {ep : Nat} {t : SetTable} (ho : s.heap.get? a = some o) (hx : o.ExactSet) (hd : o.data = .set es ep t)
    {es1 : Array (Int × Value)} {t2 : SetTable} {ks1 : List Str} (T : TxSet w ks1 es1 t2) {wasD : Bool} {R : Option Bool → Shared → Prop}
    (hR : ∀ h', Heap.SameBut a s.heap h' → SetX w h' a ks1 → R (some true) { s with heap := h' }) :
    wpAny (model P w) A (do
        storeSet a es1 t2
        if (!wasD && t2.tooFull) = true then do
            gv (relayAll t2 es1 (SetTable.grown es1.size)).2.2
            storeSet a (relayAll t2 es1 (SetTable.grown es1.size)).1 (relayAll t2 es1 (SetTable.grown es1.size)).2.1
            pure (some true)
          else pure (some true)) R E s := by
  have bd1 : es1.size < scanBound := by rw [T.size]; exact T.bd
  refine wpAny_bind (wpAny_storeSet_of ho hd ?_ (fits_of_scanBound bd1))
  have o1 := store_at (es' := es1) (t' := t2) ho hd
  have u1 := Heap.SameBut.update s.heap a (Obj.putSet es1 t2)
  split
  · have hp := relayAll_perm t2 es1 (SetTable.grown es1.size)
    have hf := relayAll_fits t2 es1 (SetTable.grown es1.size)
    have hr := relayAll_ris t2 es1 (SetTable.grown es1.size)
    have hl := relayAll_led t2 es1 (SetTable.grown es1.size)
    generalize relayAll t2 es1 (SetTable.grown es1.size) = Z at hp hf hr hl ⊢
    obtain ⟨es2, t3, gave⟩ := Z
    dsimp only at hp hf hr hl ⊢
    have z2 : es2.size = es1.size := by
      rw [← Array.length_toList, hp.length_eq, Array.length_toList]
    refine wpAny_bind (hg _ _ _ ?_)
    refine wpAny_bind (wpAny_storeSet_of o1 rfl ?_ (fits_of_scanBound (by rw [z2]; exact bd1)))
    have o2 := store_at (es' := es2) (t' := t3) o1 rfl
    refine wpAny_pure (hR _ (u1.trans (Heap.SameBut.update _ a _)) ⟨_, es2, _, t3, o2, hx, rfl, ?_⟩)
    obtain ⟨zs, pz, pk⟩ := T.els
    obtain ⟨zs', pz', pk'⟩ := paired_perm hp.symm pz
    exact ⟨⟨zs', pz', pk'.symm.trans pk⟩, T.nd, T.bd, hf, hr, T.ld.imp id fun q => by rw [hl]; exact q⟩
  · exact wpAny_pure (hR _ u1 ⟨_, es1, _, t2, o1, hx, rfl, T⟩)
theorem tx_addHashed {z : Str} {tk : Tok} {Q : Bool → Shared → Prop} (R : SetX w s.heap a ks) (room : ks.length + 1 < scanBound)
    (hQ : ∀ h' b, Heap.SameBut a s.heap h' → SetX w h' a (addT ks z) → Q b { s with heap := h' }) :
    wpAny (model P w) A (setAddHashed a (.str z tk) ((PySem.strKind P w).hash z)) Q E s := by
  obtain ⟨o, es, ep, t, ho, hx, hd, T⟩ := R
  have hk : (PySem.strKind P w).is z (.str z tk) = true := strKind_is P w z tk
  have hsc : (Value.str z tk).scannable = true := rfl
  have hel : ElemsOf (PySem.strKind P w) es.toList := T.elems
  have hbd : es.size < scanBound := by rw [T.size]; exact T.bd
  unfold setAddHashed setAddHashedIn
  refine wpAny_holding (wpAny_bind (wpAny_setState_of ho hd T.ft ?_))
  dsimp only
  rw [byScan_of hsc hbd hel]
  simp only [↓reduceIte]
  unfold setAddByScan
  refine wpAny_bind ?_
  refine wpAny_bind (wpAny_rule ?_)
  refine wpAny_bind (wpAny_setScan_of hk ho hd T.ft hel ?_)
  cases hfi : List.findIdx? (fun e => (PySem.strKind P w).is z e.2) es.toList with
  | some j =>
    dsimp only
    obtain ⟨hj, pj, _⟩ := List.findIdx?_eq_some_iff_getElem.mp hfi
    have hin : z ∈ ks := (T.has (P := P) z).mp ⟨es.toList[j], List.getElem_mem hj, pj⟩
    refine wpAny_pure (wpAny_pure (hQ s.heap _ (Heap.SameBut.refl a s.heap) ?_))
    have e : addT ks z = ks := if_pos hin
    rw [e]
    exact ⟨o, es, ep, t, ho, hx, hd, T⟩
  | none =>
    dsimp only
    have hnot : z ∉ ks := fun q => by
      obtain ⟨e, he, f⟩ := (T.has (P := P) z).mpr q
      have c := List.findIdx?_eq_none_iff.mp hfi e he
      rw [f] at c
      cases c
    have egv : ∀ (b : Bool) {s₁ : Shared} {Q' : Unit → Shared → Prop}, Q' () s₁ → wpAny (model P w) A (match b with | true => rule "set.scan.the-table-gave-way" | false => pure ()) Q' E s₁ := by
      intro b s₁ Q' q
      cases b
      · exact wpAny_pure q
      · exact wpAny_rule q
    have hp := layNew_perm t es ((PySem.strKind P w).hash z) (.str z tk)
    have hf := layNew_fits t es ((PySem.strKind P w).hash z) (.str z tk)
    have hr := layNew_ris t es ((PySem.strKind P w).hash z) (.str z tk) T.ri
    have hl := layNew_led t es ((PySem.strKind P w).hash z) (.str z tk)
    generalize layNew t es ((PySem.strKind P w).hash z) (.str z tk) = Z at hp hf hr hl ⊢
    obtain ⟨es1, t1, wasD, gave⟩ := Z
    dsimp only at hp hf hr hl ⊢
    rw [Array.toList_push] at hp
    have hc : es1.toList.Perm (((PySem.strKind P w).hash z, Value.str z tk) :: es.toList) := hp.trans (List.perm_append_singleton _ _)
    have e1 : addT ks z = z :: ks := if_neg hnot
    have mk : ∀ t2 : SetTable, t2.fits es1.size = true → Ris t2.place.toList → t2.led = t1.led → TxSet w (addT ks z) es1 t2 := fun t2 f2 r2 l2 => by
      obtain ⟨zs, pz, pk⟩ := T.els
      obtain ⟨zs', pz', pk'⟩ := paired_perm hc.symm (Paired.cons (F := TxE w) ⟨⟨tk, rfl⟩, rfl⟩ pz)
      refine ⟨⟨zs', pz', ?_⟩, nd_addT T.nd, Nat.lt_of_le_of_lt (len_addT ks z) room, f2, r2, ?_⟩
      · rw [e1]; exact pk'.symm.trans (pk.cons z)
      · rw [l2, hl]; exact T.ld
    refine wpAny_bind (egv _ ?_)
    split
    · refine wpAny_bind ?_
      rw [hashByValue_scannable 8 hsc]
      refine wpAny_pure ?_
      refine tx_store (ks1 := addT ks z) ?_ ho hx hd (mk _ ?_ ?_ ?_) ?_
      · intro b s₁ Q' q
        cases b
        · exact wpAny_pure q
        · exact wpAny_rule q
      · first | (split <;> first | exact hf | exact SetTable.fits_plain_off hf) | exact hf
      · first | (split <;> exact hr) | exact hr
      · first | (split <;> rfl) | rfl
      · intro h' sb r; dsimp only; exact wpAny_pure (hQ h' _ sb r)
    · refine wpAny_bind (wpAny_pure ?_)
      simp only [↓reduceIte]
      refine tx_store (ks1 := addT ks z) ?_ ho hx hd (mk _ hf hr rfl) ?_
      · intro b s₁ Q' q
        cases b
        · exact wpAny_pure q
        · exact wpAny_rule q
      · intro h' sb r; dsimp only; exact wpAny_pure (hQ h' _ sb r)
/-- one more member -/
theorem tx_add {z : Str} {tk : Tok} {Q : Bool → Shared → Prop} (R : SetX w s.heap a ks) (room : ks.length + 1 < scanBound)
    (hQ : ∀ h' b, Heap.SameBut a s.heap h' → SetX w h' a (addT ks z) → Q b { s with heap := h', toks := s.toks + 1 }) :
    wpAny (model P w) A (setAdd a (.str z tk)) Q E s := by
  unfold setAdd
  refine wpAny_holding (wpAny_bind ((PySem.strKind P w).pyHash (strKind_is P w z tk) ?_))
  exact tx_addHashed (s := { s with toks := s.toks + 1 }) R room fun h' b sb r => hQ h' b sb r
end
end Sd
namespace Sd
open PySem PySem.Spec PyProof.Rows L2
section
variable {P : Program} {w : World} {A : Around} {E : Value → Shared → Prop} {s : Shared} {a : Addr} {ks : List Str}
theorem strsAre_paired {w : World} : ∀ {l : List (Int × Value)} {zs : List Str}, Paired (TxE w) l zs → StrsAre (l.map (·.2)) zs
  | _, _, .nil => .nil
  | _, _, .cons ⟨⟨tk, q⟩, _⟩ r => by
    rw [List.map_cons, q]
    exact .cons _ _ (strsAre_paired r)
theorem strsAre_perm {vs vs' : List Value} (p : vs.Perm vs') : ∀ {zs : List Str}, StrsAre vs zs → ∃ zs', StrsAre vs' zs' ∧ zs.Perm zs' := by
  induction p with
  | nil => intro zs h; exact ⟨zs, h, .refl _⟩
  | cons x _ ih =>
    intro zs h
    cases h with
    | cons z u q =>
      obtain ⟨m', c, d⟩ := ih q
      exact ⟨_, .cons z u c, d.cons _⟩
  | swap x y l =>
    intro zs h
    cases h with
    | cons z u q =>
      cases q with
      | cons z' u' q' => exact ⟨_, .cons z' u' (.cons z u q'), .swap _ _ _⟩
  | trans _ _ ih1 ih2 =>
    intro zs h
    obtain ⟨m1, c, d⟩ := ih1 h
    obtain ⟨m2, c', d'⟩ := ih2 c
    exact ⟨m2, c', d.trans d'⟩
/-- sorted(a set of texts) -/
theorem tx_sorted {Q : Value → Shared → Prop} (R : SetX w s.heap a ks) (hh : A.handled = none)
    (hQ : ∀ s' p (out : Array Value) (c : Nat) (zs : List Str), (∀ b o, s.heap.get? b = some o → s'.heap.get? b = some o) → s'.gens = s.gens → s'.os = s.os → s.heap.objs.size ≤ p →
      s'.heap.get? p = some (seqObj "list" out c) → StrsAre out.toList zs → zs = uniq ks → Q (.ref p) s') :
    wpAny (model P w) A (call (.builtin "sorted") [.ref a]) Q E s := by
  obtain ⟨o, es, ep, t, ho, hx, hd, T⟩ := R
  have hb : es.size < scanBound := by rw [T.size]; exact T.bd
  refine Calls.call_function_entry kind_sorted plain_sorted entry_sorted (args_sorted1 _) ?_
  unfold Builtin.«sorted»
  refine wpAny_bind (m := checkCount "sorted" 1 1 _) (wpAny_pure ?_)
  refine wpAny_bind (collect_set (A := A.in1) hh ⟨o, ho, hx.1, hd⟩ T.ft hb T.ri T.ld fun s1 vs k1 hz g1 o1 pm => ?_)
  obtain ⟨zs, pz, pk⟩ := T.els
  obtain ⟨ys, hy, py⟩ := strsAre_perm pm.symm (strsAre_paired pz)
  have hlen : vs.length = ks.length := by
    rw [pm.length_eq, List.length_map, Array.length_toList, T.size]
  have hsz : vs.length ≤ sizeLine := by
    have := T.bd
    rw [hlen, sizeLine_eq]; unfold scanBound at this; omega
  refine wpAny_bind (wpAny_newList ?_ hsz)
  have hoL : (s1.heap.push (seqObj "list" vs.toArray 0)).get? s1.heap.objs.size = some (seqObj "list" vs.toArray 0) := Heap.get?_push_size _ rfl
  refine wpAny_bind (wpAny_holding (wpAny_call_entry slot_list_sort ⟨_, hoL, rfl⟩ entry_list_sort
    (list_sort_treeKAny strKind_oneLt hoL hy.keysOf (fun v₁ v₂ rest e => keyKind_strs (by rw [← e]; exact hy)) hsz fun st' hp hs => ⟨_, rfl, ?_⟩) (args_list_sort _)))
  obtain ⟨zs', h1, h2, h3⟩ := sorted_out_str hy hp hs
  obtain ⟨c, hc⟩ := sortedHeap_at (vs := vs) (out := (arrOf st').map (·.2)) hoL
  have pall : zs'.Perm ks := h2.trans (py.symm.trans pk)
  refine wpAny_pure ⟨_, rfl, hQ _ s1.heap.objs.size _ c zs' (fun b u e => ?_) g1 o1 hz hc h1 (uniq_eq (sorted_asc h3 (pall.nodup_iff.mpr T.nd)) fun y => pall.mem_iff)⟩
  have q := k1 b u e
  have hlt := Heap.lt_size q
  show (sortedHeap (s1.heap.push (seqObj "list" vs.toArray 0)) s1.heap.objs.size vs ((arrOf st').map (·.2))).get? b = some u
  rw [sortedHeap_old (Nat.ne_of_lt hlt) (by rw [size_push']; exact Nat.lt_succ_of_lt hlt)]
  exact Heap.get?_push_of_some _ q
end
/-! ### set(a list or a tuple of texts) -/
def allT (xs : List Str) : List Str := xs.foldl addT []
theorem allT_snoc (xs : List Str) (z : Str) : allT (xs ++ [z]) = addT (allT xs) z := by
  unfold allT
  rw [List.foldl_append]
  rfl
theorem mem_foldT {y : Str} : ∀ (xs acc : List Str), y ∈ xs.foldl addT acc ↔ y ∈ acc ∨ y ∈ xs
  | [], acc => by simp
  | x :: r, acc => by
    rw [List.foldl_cons, mem_foldT r (addT acc x), mem_addT, List.mem_cons]
    constructor
    · rintro ((h | h) | h)
      · exact .inr (.inl h)
      · exact .inl h
      · exact .inr (.inr h)
    · rintro (h | h | h)
      · exact .inl (.inr h)
      · exact .inl (.inl h)
      · exact .inr h
theorem mem_allT {y : Str} {xs : List Str} : y ∈ allT xs ↔ y ∈ xs := by
  rw [allT, mem_foldT]
  simp
theorem len_foldT : ∀ (xs acc : List Str), (xs.foldl addT acc).length ≤ acc.length + xs.length
  | [], acc => Nat.le_refl _
  | x :: r, acc => by
    have h := len_foldT r (addT acc x)
    have k := len_addT acc x
    rw [List.foldl_cons, List.length_cons]
    omega
theorem len_allT (xs : List Str) : (allT xs).length ≤ xs.length := by
  have := len_foldT xs []
  simpa [allT] using this
theorem uniq_allT (xs : List Str) : uniq (allT xs) = uniq xs := uniq_congr fun _ => mem_allT
section
variable {P : Program} {w : World} {A : Around} {R : Result → Shared → Prop} {I : Addr} {fp wr : List Addr} {G : Array GenState → Array GenState → Prop} {n : Nat} {Pv : Nat → Value → Prop} {St : Nat → Shared → Prop}
theorem tx_loop (W : WalksS P w A.in1 I fp wr G n Pv St) (S : Addr) (hSf : S ∉ fp) (xs : List Str) (hsz : xs.length = n) (hfew : n + 1 < scanBound)
    (hval : ∀ i v, Pv i v → ∃ t, v = .str (xs.getD i Str.empty) t) :
    ∀ (k i : Nat) (s : Shared), n - i = k → i ≤ n → St i s → SetX w s.heap S (allT (xs.take i)) →
      (∀ s', Moved (S :: wr) G s s' → SetX w s'.heap S (allT xs) → R (.ok (.ret .none)) s') →
      codeAny (model P w) A (.builtin "set.update.loop" ⟨[.ref S, .ref I], []⟩) R s := by
  have hSw : S ∉ wr := fun h => hSf (W.sub _ h)
  have sub : ∀ b ∈ wr, b ∈ S :: wr := fun b hb => List.mem_cons_of_mem _ hb
  intro k
  induction k with
  | zero =>
    intro i s hk hi hst hS hR
    have e : i = n := by omega
    subst e
    rw [← hsz, List.take_length] at hS
    refine codeAny_builtin PyProof.Rows.F.entry_set_update_loop ?_
    rw [Around.under_plainId PyProof.Rows.F.plain_set_update_loop _]
    show wpAny _ A.in1 (pyNext (.ref I) >>= _) _ _ s
    refine wpAny_bind (W.done s _ _ hst fun s' hm => ?_)
    show wpAny _ A.in1 (ret Value.none) _ _ s'
    exact wpAny_pure (hR s' (hm.mono sub) (hS.at fun o q => hm.heap S o hSw q))
  | succ k ih =>
    intro i s hk hi hst hS hR
    have hlt : i < n := by omega
    refine codeAny_builtin PyProof.Rows.F.entry_set_update_loop ?_
    rw [Around.under_plainId PyProof.Rows.F.plain_set_update_loop _]
    show wpAny _ A.in1 (pyNext (.ref I) >>= _) _ _ s
    refine wpAny_bind (W.item i s _ _ hlt hst fun v s' hP hst' hm => ?_)
    obtain ⟨t, rfl⟩ := hval i v hP
    have hS' : SetX w s'.heap S (allT (xs.take i)) := hS.at fun o q => hm.heap S o hSw q
    show wpAny _ A.in1 (holding [Value.str (xs.getD i Str.empty) t] (setAdd S (.str (xs.getD i Str.empty) t)) >>= _) _ _ s'
    have room : (allT (xs.take i)).length + 1 < scanBound := by
      have h1 := len_allT (xs.take i)
      rw [List.length_take] at h1
      omega
    refine wpAny_bind (wpAny_holding (tx_add hS' room fun h' b hsb hS2 => ?_))
    have hSi : SetX w h' S (allT (xs.take (i + 1))) := by
      have hx : xs[i]? = some (xs.getD i Str.empty) := by
        rw [List.getD_eq_getElem?_getD, List.getElem?_eq_getElem (by omega)]; rfl
      rw [List.take_add_one, hx, Option.toList_some, allT_snoc]
      exact hS2
    refine wpAny_pure ⟨plainId_quiet PyProof.Rows.F.plain_set_update_loop _, ih (i + 1) _ (by omega) hlt (W.frame _ s' _ _ hst' (Nat.le_succ _) fun b hb o e => ?_) hSi fun s'' hm'' hS'' => ?_⟩
    · rw [hsb.2 b (fun h : b = S => hSf (by rw [← h]; exact hb))]
      exact e
    · refine hR s'' (Moved.trans W.gtrans ((hm.mono sub).then_heap (Nat.le_succ _) fun b o hb e => ?_) hm'') hS''
      rw [hsb.2 b (fun h : b = S => hb (by rw [h]; exact List.mem_cons_self))]
      exact e
end
end Sd
namespace Sd
open PySem PySem.Spec PyProof.Rows L2 
abbrev newS (w : World) : Obj := { cls := .type "set", dict := none, data := .set #[] 0 (.fresh 0 0 (!w.params.followText "set-order")) }
theorem strsAt : ∀ {us : List Value} {xs : List Str}, StrsAre us xs → ∀ (i : Nat) (v : Value), us[i]? = some v → ∃ t, v = .str (xs.getD i Str.empty) t
  | _, _, .nil, _, _, h => by simp at h
  | _, _, .cons y t r, 0, v, h => by
    simp only [List.getElem?_cons_zero, Option.some.injEq] at h
    exact ⟨t, h.symm⟩
  | _, _, .cons y t r, i + 1, v, h => by
    simp only [List.getElem?_cons_succ] at h
    obtain ⟨u, e⟩ := strsAt r i v h
    exact ⟨u, by rw [e]; rfl⟩
section
variable {P : Program} {w : World} {A : Around} {E : Value → Shared → Prop} {s : Shared}

theorem tx_set_list {l : Addr} {items : Array Value} {xs : List Str} {Q : Value → Shared → Prop} (hh : A.handled = none) (hl : s.heap.IsList l items) (hi : StrsAre items.toList xs) (hfew : xs.length + 1 < scanBound)
    (hQ : ∀ (h' : Heap) (tk : Nat), SetX w h' s.heap.objs.size (allT xs) → (∀ b o, s.heap.get? b = some o → h'.get? b = some o) → Q (.ref s.heap.objs.size) { s with heap := h', toks := tk }) :
    wpAny (model P w) A (call (.type "set") [.ref l]) Q E s := by
  obtain ⟨cmro, tlmro, hmro⟩ := PySem.F.called_set.mro
  have hmade := PySem.F.called_set.made
  have hsubt := PySem.F.called_set.sub
  refine wpAny_call (codeAny_of_tree ?_)
  show wpAny _ _ (callAny (.type "set") _) _ _ _
  refine wpAny_pure ⟨Code.quiet_builtin _ (by decide +kernel), codeAny_builtin PySem.F.entry_type_call ?_⟩
  rw [Around.under_plain (weight_type_call_type "set" [.ref l] []) rfl]
  have c1 := PySem.F.called_set.notType
  have c2 := PySem.F.called_set.canCreate
  have c3 := PySem.F.typeCall_set_1 (.ref l)
  repeat (any_goals (first | assumption | wp_step))
  refine codeAny_mono (code_set_led1 (.ref l) (E := E) (Q₁ := fun ob s₁ => ob = .ref s.heap.objs.size ∧ s₁ = { s with heap := s.heap.push (newS w) }) ⟨rfl, rfl⟩) fun r s₁ hr => ?_
  cases r with
  | error e => exact hr
  | ok fl =>
    cases fl with
    | ret ob =>
      obtain ⟨rfl, rfl⟩ := hr
      have hS : (s.heap.push (newS w)).get? s.heap.objs.size = some (newS w) := Heap.get?_push_size _ rfl
      have hT : Shared.TypeIs { s with heap := s.heap.push (newS w) } (.ref s.heap.objs.size) "set" := ⟨_, hS, rfl⟩
      have hli := PySem.F.called_set.init.lookup
      have hbi := PySem.F.called_set.init.bind (.ref s.heap.objs.size)
      repeat (any_goals (first | assumption | wp_step))
      refine codeAny_mono (codeAny_call_builtin (R := wants (fun r s₂ => r = .none ∧ ∃ h' tk, s₂ = { s with heap := h', toks := tk } ∧ SetX w h' s.heap.objs.size (allT xs) ∧
          (∀ b o, s.heap.get? b = some o → h'.get? b = some o)) E) PySem.F.called_set.init.plain PySem.F.entry_set_init (check_set_init_1 hT ?_)) fun r₂ s₂ hr₂ => ?_
      · obtain ⟨ol, hol, hcl, nl, hdl⟩ := hl
        obtain ⟨ocl, odi, oda, osl⟩ := ol
        simp only at hcl hdl
        subst hcl; subst hdl
        have hol2 : (s.heap.push (newS w)).get? l = some { cls := .type "list", dict := odi, data := .seq items nl, slots := osl } := Heap.get?_push_of_some _ hol
        have n1 := PySem.F.sub_list_set
        have n2 := PySem.F.sub_list_frozenset
        have n3 : (Value.type "list" == Value.type "dict") = false := by decide
        have hl1 : (s.heap.push (newS w)).IsList l items := ⟨_, hol2, rfl, nl, rfl⟩
        unfold Builtin.«set.__init__» noKeywords Builtin.Frozenset.updateFrom
        generalize hPI : pyIter = PI
        wp_walk
        subst hPI
        refine wpAny_pyIter_list hl1 ?_
        refine wpAny_bind (wpAny_runValue ?_)
        have hlS : l < s.heap.objs.size := Heap.lt_size hol
        have hh3 : A.in1.in1.in1.handled = none := by simp [hh]
        have hneI : l ≠ (s.heap.push (newS w)).objs.size := by
          rw [Heap.size_push]
          exact Nat.ne_of_lt (Nat.lt_succ_of_lt hlS)
        have hSf : s.heap.objs.size ∉ [(s.heap.push (newS w)).objs.size, l] := by
          rw [Heap.size_push]
          simp only [List.mem_cons, List.mem_singleton, List.not_mem_nil, or_false, not_or]
          exact ⟨Nat.ne_of_lt (Nat.lt_succ_self _), Nat.ne_of_gt hlS⟩
        have hsz : xs.length = items.size := by
          rw [← StrsAre.len_eq hi, Array.length_toList]
        have hval : ∀ (i : Nat) (v : Value), items[i]? = some v → ∃ t, v = .str (xs.getD i Str.empty) t := fun i v hv => strsAt hi i v (by rw [Array.getElem?_toList]; exact hv)
        refine tx_loop ((Walks.list hh3 _ l hneI items).toS) s.heap.objs.size hSf xs hsz (by rw [← hsz]; exact hfew) hval (items.size - 0) 0 _ (by omega) (Nat.zero_le _)
          ⟨⟨_, Heap.get?_push_size _ rfl, rfl, rfl⟩, (hl1.push _)⟩ ?hS0 ?hR
        case hS0 => exact (SetX.fresh w).at fun o e => Heap.get?_push_of_some _ e
        case hR =>
          intro s' hm hS'
          obtain ⟨h', g', d', tk', os'⟩ := s'
          obtain rfl : g' = s.gens := hm.gens
          obtain rfl : d' = s.drawn := hm.drawn
          obtain rfl : os' = s.os := hm.os
          show wpAny _ _ _ _ _ _
          refine wpAny_pure ?_
          show wpAny _ _ (ret Value.none) _ _ _
          refine wpAny_pure ⟨rfl, h', tk', rfl, hS', fun b o e => ?_⟩
          have hb := Heap.lt_size e
          refine hm.heap b o ?_ (Heap.get?_push_of_some _ (Heap.get?_push_of_some _ e))
          rw [Heap.size_push]
          simp only [List.mem_cons, List.mem_singleton, List.not_mem_nil, or_false, not_or]
          exact ⟨Nat.ne_of_lt hb, Nat.ne_of_lt (Nat.lt_succ_of_lt hb)⟩
      · cases r₂ with
        | error e => exact hr₂
        | ok fl₂ =>
          cases fl₂ with
          | ret r =>
            obtain ⟨rfl, h', tk, rfl, hS', hk'⟩ := hr₂
            repeat (any_goals (first | assumption | wp_step))
            exact hQ _ _ hS' hk'
          | _ => exact hr₂.elim
    | _ => exact hr.elim


theorem tx_set_tuple {l : Addr} {items : Array Value} {xs : List Str} {Q : Value → Shared → Prop} (hh : A.handled = none) (hl : s.heap.IsTuple l items) (hi : StrsAre items.toList xs) (hfew : xs.length + 1 < scanBound)
    (hQ : ∀ (h' : Heap) (tk : Nat), SetX w h' s.heap.objs.size (allT xs) → (∀ b o, s.heap.get? b = some o → h'.get? b = some o) → Q (.ref s.heap.objs.size) { s with heap := h', toks := tk }) :
    wpAny (model P w) A (call (.type "set") [.ref l]) Q E s := by
  obtain ⟨cmro, tlmro, hmro⟩ := PySem.F.called_set.mro
  have hmade := PySem.F.called_set.made
  have hsubt := PySem.F.called_set.sub
  refine wpAny_call (codeAny_of_tree ?_)
  show wpAny _ _ (callAny (.type "set") _) _ _ _
  refine wpAny_pure ⟨Code.quiet_builtin _ (by decide +kernel), codeAny_builtin PySem.F.entry_type_call ?_⟩
  rw [Around.under_plain (weight_type_call_type "set" [.ref l] []) rfl]
  have c1 := PySem.F.called_set.notType
  have c2 := PySem.F.called_set.canCreate
  have c3 := PySem.F.typeCall_set_1 (.ref l)
  repeat (any_goals (first | assumption | wp_step))
  refine codeAny_mono (code_set_led1 (.ref l) (E := E) (Q₁ := fun ob s₁ => ob = .ref s.heap.objs.size ∧ s₁ = { s with heap := s.heap.push (newS w) }) ⟨rfl, rfl⟩) fun r s₁ hr => ?_
  cases r with
  | error e => exact hr
  | ok fl =>
    cases fl with
    | ret ob =>
      obtain ⟨rfl, rfl⟩ := hr
      have hS : (s.heap.push (newS w)).get? s.heap.objs.size = some (newS w) := Heap.get?_push_size _ rfl
      have hT : Shared.TypeIs { s with heap := s.heap.push (newS w) } (.ref s.heap.objs.size) "set" := ⟨_, hS, rfl⟩
      have hli := PySem.F.called_set.init.lookup
      have hbi := PySem.F.called_set.init.bind (.ref s.heap.objs.size)
      repeat (any_goals (first | assumption | wp_step))
      refine codeAny_mono (codeAny_call_builtin (R := wants (fun r s₂ => r = .none ∧ ∃ h' tk, s₂ = { s with heap := h', toks := tk } ∧ SetX w h' s.heap.objs.size (allT xs) ∧
          (∀ b o, s.heap.get? b = some o → h'.get? b = some o)) E) PySem.F.called_set.init.plain PySem.F.entry_set_init (check_set_init_1 hT ?_)) fun r₂ s₂ hr₂ => ?_
      · obtain ⟨ol, hol, hcl, nl, hdl⟩ := hl
        obtain ⟨ocl, odi, oda, osl⟩ := ol
        simp only at hcl hdl
        subst hcl; subst hdl
        have hol2 : (s.heap.push (newS w)).get? l = some { cls := .type "tuple", dict := odi, data := .seq items nl, slots := osl } := Heap.get?_push_of_some _ hol
        have n1 := PySem.F.sub_tuple_set
        have n2 := PySem.F.sub_tuple_frozenset
        have n3 : (Value.type "tuple" == Value.type "dict") = false := by decide
        have hl1 : (s.heap.push (newS w)).IsTuple l items := ⟨_, hol2, rfl, nl, rfl⟩
        unfold Builtin.«set.__init__» noKeywords Builtin.Frozenset.updateFrom
        generalize hPI : pyIter = PI
        wp_walk
        subst hPI
        refine wpAny_pyIter_tuple hl1 ?_
        refine wpAny_bind (wpAny_runValue ?_)
        have hlS : l < s.heap.objs.size := Heap.lt_size hol
        have hh3 : A.in1.in1.in1.handled = none := by simp [hh]
        have hneI : l ≠ (s.heap.push (newS w)).objs.size := by
          rw [Heap.size_push]
          exact Nat.ne_of_lt (Nat.lt_succ_of_lt hlS)
        have hSf : s.heap.objs.size ∉ [(s.heap.push (newS w)).objs.size, l] := by
          rw [Heap.size_push]
          simp only [List.mem_cons, List.mem_singleton, List.not_mem_nil, or_false, not_or]
          exact ⟨Nat.ne_of_lt (Nat.lt_succ_self _), Nat.ne_of_gt hlS⟩
        have hsz : xs.length = items.size := by
          rw [← StrsAre.len_eq hi, Array.length_toList]
        have hval : ∀ (i : Nat) (v : Value), items[i]? = some v → ∃ t, v = .str (xs.getD i Str.empty) t := fun i v hv => strsAt hi i v (by rw [Array.getElem?_toList]; exact hv)
        refine tx_loop ((Walks.tuple hh3 _ l hneI items).toS) s.heap.objs.size hSf xs hsz (by rw [← hsz]; exact hfew) hval (items.size - 0) 0 _ (by omega) (Nat.zero_le _)
          ⟨⟨_, Heap.get?_push_size _ rfl, rfl, rfl⟩, (hl1.push _)⟩ ?hS0 ?hR
        case hS0 => exact (SetX.fresh w).at fun o e => Heap.get?_push_of_some _ e
        case hR =>
          intro s' hm hS'
          obtain ⟨h', g', d', tk', os'⟩ := s'
          obtain rfl : g' = s.gens := hm.gens
          obtain rfl : d' = s.drawn := hm.drawn
          obtain rfl : os' = s.os := hm.os
          show wpAny _ _ _ _ _ _
          refine wpAny_pure ?_
          show wpAny _ _ (ret Value.none) _ _ _
          refine wpAny_pure ⟨rfl, h', tk', rfl, hS', fun b o e => ?_⟩
          have hb := Heap.lt_size e
          refine hm.heap b o ?_ (Heap.get?_push_of_some _ (Heap.get?_push_of_some _ e))
          rw [Heap.size_push]
          simp only [List.mem_cons, List.mem_singleton, List.not_mem_nil, or_false, not_or]
          exact ⟨Nat.ne_of_lt hb, Nat.ne_of_lt (Nat.lt_succ_of_lt hb)⟩
      · cases r₂ with
        | error e => exact hr₂
        | ok fl₂ =>
          cases fl₂ with
          | ret r =>
            obtain ⟨rfl, h', tk, rfl, hS', hk'⟩ := hr₂
            repeat (any_goals (first | assumption | wp_step))
            exact hQ _ _ hS' hk'
          | _ => exact hr₂.elim
    | _ => exact hr.elim

end
end Sd
namespace Sd
open PySem PySem.Spec PyProof.Rows L2
/-! a set of texts as a tracked thing -/
def TxO (w : World) (a : Addr) (ks : List Str) : HO := .ext fun h => SetX w h a ks
section
variable {X : Cx} {pins : List (Addr × Obj)} {σ : L2.St} {H : Hp} {s : Shared}
theorem txo_ok {P : Program} {w : World} {h : Heap} {a : Addr} {ks : List Str} (R : SetX w h a ks) : ObjOk P w H h a (TxO w a ks) := by
  have ⟨o, _, _, _, ho, _⟩ := R
  exact ⟨R, ⟨o, ho⟩, fun h1 h2 r k => r.at k⟩
theorem txo_get {a : Addr} {ks : List Str} (I : Inv X pins σ H s) (ha : H a = some (TxO X.w a ks)) : SetX X.w s.heap a ks := (I.hok a _ ha).1
theorem tx_callAdd {P : Program} {w : World} {A : Around} {E : Value → Shared → Prop} {a : Addr} {ks : List Str} {z : Str} {tk : Tok} {Q : Value → Shared → Prop} (R : SetX w s.heap a ks) (room : ks.length + 1 < scanBound)
    (hQ : ∀ h', Heap.SameBut a s.heap h' → SetX w h' a (addT ks z) → Q .none { s with heap := h', toks := s.toks + 1 }) :
    wpAny (model P w) A (call (.builtin "set.add") [.ref a, .str z tk]) Q E s := by
  have ⟨o, _, _, _, ho, hx, _⟩ := R
  refine wpAny_call_entry PySem.F.slot_set_add ⟨o, ho, hx.1⟩ PySem.F.entry_set_add ?_ (PySem.F.args_set_add_2 _ _)
  unfold Builtin.«set.add» Builtin.Frozenset.oneOther
  simp only [List.isEmpty_nil, bind_assoc]
  unfold Builtin.Frozenset.addrOf
  refine wpAny_bind (wpAny_pure ?_)
  try dsimp only
  refine wpAny_bind (wpAny_pure ?_)
  try dsimp only
  refine wpAny_bind (tx_add R room fun h' b sb r => ?_)
  show wpAny _ _ (ret Value.none) _ _ _
  exact wpAny_pure ⟨_, rfl, hQ h' sb r⟩
theorem tx_addOk {E : Value → Shared → Prop} {D : Addr} {ks : List Str} {z : Str} {u : Value} {Q : Value → Shared → Prop} (I : Inv X pins σ H s) (hD : H D = some (TxO X.w D ks)) (room : ks.length + 1 < scanBound) (r : RelV (.str z) u)
    (h : ∀ s', Inv X pins σ (upd H D (TxO X.w D (addT ks z))) s' → Q .none s') : wpAny (model X.prog X.w) X.A (call (.builtin "set.add") [.ref D, u]) Q E s := by
  obtain ⟨tk, rfl⟩ := r
  refine tx_callAdd (txo_get I hD) room fun h' sb new => ?_
  have ⟨o, _, _, _, ho, _⟩ := id new
  exact h _ (I.write (e := D) (t' := s.toks + 1) (by rw [hD]; trivial) (.inl rfl) (fun b u hb hu => (sb.2 b hb).trans hu) ⟨o, ho⟩ (txo_ok new))
/-! ### calls: set(xs), sorted(set) -/
def rSetT (K : PySem.W.Frag) (w : World) : List V → Hp → VK → Prop := fun xs H Q => ∃ (l : Addr) (zs : List Str), xs = [V.ref l] ∧ (SqL K H l (zs.map V.str) ∨ SqT K H l (zs.map V.str)) ∧ zs.length ≤ 1000 ∧
  ∀ p, H p = none → Q (.ref p) (upd H p (TxO w p (allT zs)))
theorem strsOf : ∀ {ys : List Str} {us : List Value}, Vals (ys.map V.str) us → StrsAre us ys
  | [], _, .nil => .nil
  | y :: ys, _, .cons ⟨t, e⟩ r => by
    subst e
    exact .cons y t (strsOf r)
theorem valsOf : ∀ {ys : List Str} {us : List Value}, StrsAre us ys → Vals (ys.map V.str) us
  | _, _, .nil => .nil
  | _, _, .cons y t r => .cons ⟨t, rfl⟩ (valsOf r)
theorem cr_setT (hc : X.calm = true) : CallR X (.type "set") (rSetT X.K X.w) := by
  intro pins s σ H xs us Q I r h
  obtain ⟨l, zs, rfl, hs, hfew, q⟩ := h
  rw [Vals.ref1 r]
  have few : zs.length + 1 < scanBound := by unfold scanBound; omega
  have fin : ∀ (h' : Heap) (tk : Nat), SetX X.w h' s.heap.objs.size (allT zs) → (∀ b o, s.heap.get? b = some o → h'.get? b = some o) → EP X pins σ Q (.ref s.heap.objs.size) { s with heap := h', toks := tk } := fun h' tk R k =>
    ⟨.ref _, _, I.laid k (Nat.le_refl _) (txo_ok R), rfl, q _ (I.hok.fresh (Nat.le_refl _))⟩
  rcases hs with hs | hs
  · obtain ⟨its, rv, hl, _⟩ := I.list hs
    exact tx_set_list (I.ok.hd hc) hl.isList (strsOf rv) few fin
  · obtain ⟨its, rv, hl, _⟩ := I.tuple hs
    have ⟨o, ho, hcl, hd⟩ := hl
    exact tx_set_tuple (I.ok.hd hc) ⟨o, ho, hcl, hd⟩ (strsOf rv) few fin
def rSortX (w : World) : List V → Hp → VK → Prop := fun vs H Q => ∃ (a : Addr) (ks : List Str), vs = [V.ref a] ∧ H a = some (TxO w a ks) ∧ ∀ p, H p = none → Q (.ref p) (upd H p (.lst ((uniq ks).map V.str)))
theorem cr_sortX (hc : X.calm = true) : CallR X (.builtin "sorted") (rSortX X.w) := by
  intro pins s σ H vs us Q I r h
  obtain ⟨a, ks, rfl, ha, q⟩ := h
  have R := txo_get I ha
  rw [Vals.ref1 r]
  have few : (uniq ks).length ≤ sizeLine := by
    have ⟨_, _, _, _, _, _, _, T⟩ := R
    have h1 := uniq_len ks
    have h2 := T.bd
    rw [sizeLine_eq]; unfold scanBound at h2; omega
  refine tx_sorted R (I.ok.hd hc) fun s' p out c zs k g o hp hg hi hz => ?_
  subst hz
  have hn : H p = none := I.hok.fresh hp
  have J : Inv X pins σ (upd H p (.lst ((uniq ks).map V.str))) { s with heap := s'.heap, gens := s'.gens, drawn := s'.drawn, toks := s'.toks } :=
    I.call (ch := []) (Un.laid k hp hn) (I.hok.laid k hp ⟨by rw [List.length_map]; exact few, out.toList, c, valsOf hi, hg⟩) (by rw [g]; exact I.bare) (fun _ z => nomatch z)
  have e : s' = { s with heap := s'.heap, gens := s'.gens, drawn := s'.drawn, toks := s'.toks } := by
    cases s'; cases s; cases o; rfl
  rw [e]
  exact ⟨.ref p, _, J, rfl, q p hn⟩
end
/-! ### {elt for .. in ..} of texts: the block is entered -/
abbrev blkAt (X : Cx) (s : Shared) (H : Hp) (scope : Scope) (ce : Env) (fp : List Addr) : Cx := X.blk s H scope ce fp
/-- what stands behind the entry: D the new set, the block's frame ce, the walked thing's iterator it -/
structure Ent (X : Cx) (pins : List (Addr × Obj)) (σ : L2.St) (scope : Scope) (own : List (Str × Nat)) (tg : Expr) (it D : Addr) (fp : List Addr) (tn : Nat → Heap → Prop) (J : It) (s3 s4 : Shared) (H3 : Hp) (ce : Env) : Prop where
  i3 : Inv X pins σ H3 s3
  i4 : Inv (blkAt X s3 H3 scope ce fp) [] (wipe σ (own.map (·.2))) H3 s4
  tu : Turn X.prog X.w X.K tg J fp it tn
  st : tn 0 s4.heap
  fo : ∀ b ∈ fp, FpOk X pins H3 b
  lo : ce.locals = s3.heap.objs.size
theorem Ent.stat {X : Cx} {pins : List (Addr × Obj)} {σ : L2.St} {scope : Scope} {own : List (Str × Nat)} {tg : Expr} {it D : Addr} {fp : List Addr} {tn : Nat → Heap → Prop} {J : It} {s3 s4 : Shared} {H3 : Hp} {ce : Env}
    (_e : Ent X pins σ scope own tg it D fp tn J s3 s4 H3 ce) {σ' : L2.St} {H' : Hp} {s' : Shared} (I' : Inv (blkAt X s3 H3 scope ce fp) [] σ' H' s') (hn : ∀ b ∈ fp, H' b = none) : ∀ b ∈ fp, FpOk (blkAt X s3 H3 scope ce fp) [] H' b := fun b hb =>
  ⟨hn b hb, (I'.ok.exf b hb).1, I'.ok.exfs b hb, .inl hb, fun x c q => (I'.ok.exf b hb).2 x c q, fun p hp => absurd (show p ∈ ([] : List (Addr × Obj)) ++ [] from hp) (by simp)⟩
/-- the block is left: back in the def -/
theorem Ent.back {X : Cx} {pins : List (Addr × Obj)} {σ : L2.St} {scope : Scope} {own : List (Str × Nat)} {tg : Expr} {it D : Addr} {fp : List Addr} {tn : Nat → Heap → Prop} {J : It} {s3 s4 : Shared} {H3 : Hp} {ce : Env}
    (e : Ent X pins σ scope own tg it D fp tn J s3 s4 H3 ce) {σ' : L2.St} {H' : Hp} {s' : Shared} (I' : Inv (blkAt X s3 H3 scope ce fp) [] σ' H' s') :
    Inv X pins σ H' s' ∧ FpOk X pins H' s3.heap.objs.size ∧ ∃ m, s'.heap.Ns s3.heap.objs.size m := by
  have nC : H' s3.heap.objs.size = none := by
    have z : H' ce.locals = none := I'.free
    rw [e.lo] at z; exact z
  obtain ⟨m, hn, _⟩ := I'.loc
  have hn : s'.heap.Ns ce.locals m := hn
  rw [e.lo] at hn
  refine ⟨e.i3.call' (ch := fp) I'.os I'.base I'.hok I'.bare fun b hb => ?_, e.i3.fpOk (Nat.le_refl _) nC, m, hn⟩
  obtain ⟨_, g1, _, g3, g4, g5⟩ := e.fo b hb
  exact ⟨g3, g1, g4, g5⟩
section
variable {X : Cx}
theorem sc_enter {pins : List (Addr × Obj)} {s : Shared} {σ : L2.St} {H : Hp} {elt tg iter : Expr} {ifs : List Expr} {more : List Comprehension} {scope : Scope} {own : List (Str × Nat)} {pos pos' : Pos} {wi : TI} {use : Option (Value → Sem Unit)} {Qf : Value → Shared → Prop}
    {Go : It → Addr → Hp → Prop} (hN : X.N.Nodup) (I : Inv X pins σ H s) (hi : PI X tg iter wi) (ok : BlkOk X.N X.env.scope scope own) (hs : ∀ x, foldedSetIterable iter X.env x = pure x)
    (h : wi σ H fun J H1 => ∀ D, H1 D = none → Go J D (upd H1 D (TxO X.w D [])))
    (cont : ∀ it D fp tn J s3 s4 H3 cl C, Ent X pins σ scope own tg it D fp tn J s3 s4 H3 (compEnvC scope cl C X.env) → Go J D H3 →
      codeAny (model X.prog X.w) X.A (.compStart (.SetComp elt (⟨tg, iter, ifs, 0⟩ :: more) scope pos) 0 (.ref it) (.ref D) (compEnvC scope cl C X.env)) (compPost (model X.prog X.w) X.A X.xe use Qf (.ref D) s3.heap.objs.size) s4) :
    wpAny (model X.prog X.w) X.A (comprehension (.SetComp elt (⟨tg, iter, ifs, 0⟩ :: more) scope pos) scope X.env pos' (newSet (.type "set")) false (eval iter X.env) use) Qf X.xe s := by
  have cells : ∀ y ∈ scope.names, y.2 = .free → ∃ c, X.env.cells.lookup y.1 = some c := fun y hy e =>
    (ok.free y hy e).elim (fun k => I.ok.has _ (.inl k)) fun k => I.ok.has _ (.inr k)
  refine wpAny_comprehension_free (use := use) rfl hs (closure_ok cells) ok.kind (fun y hy e => by rw [ok.uniq y hy, e])
    (thn (hi.run pins s σ H _ I h) fun xv s1 hx => thn hx fun itv s2 ⟨it, fp, tn, J, H2, eI, I2, T, st2, f2, q⟩ => ?_)
  subst eI
  refine PpSet.newSet_ok (newEnv_comp ?_)
  generalize hD : s2.heap.objs.size = D
  have hDn : H2 D = none := I2.hok.fresh (Nat.le_of_eq hD)
  generalize hs3 : ({ s2 with heap := s2.heap.push (newS X.w) } : Shared) = s3
  have h3 : s3.heap = s2.heap.push (newS X.w) := by rw [← hs3]
  have I3 : Inv X pins σ (upd H2 D (TxO X.w D [])) s3 := by
    rw [← hs3]
    refine I2.laid (t' := s2.toks) (fun b o e => Heap.get?_push_of_some _ e) (Nat.le_of_eq hD) ?_
    rw [← hD]
    exact txo_ok (SetX.fresh X.w)
  have lt : ∀ b ∈ fp, b < s2.heap.objs.size := fun b hb => by
    obtain ⟨o, e, _⟩ := T.obj _ _ st2 b hb
    exact Heap.lt_size e
  have f3 : ∀ b ∈ fp, FpOk X pins (upd H2 D (TxO X.w D [])) b ∧ b < s3.heap.objs.size := fun b hb => by
    refine ⟨⟨?_, (f2 b hb).2⟩, by rw [h3, Heap.size_push]; exact Nat.lt_succ_of_lt (lt b hb)⟩
    rw [upd_ne (by rw [← hD]; exact Nat.ne_of_lt (lt b hb))]
    exact (f2 b hb).1
  have st3 : tn 0 s3.heap := T.keep _ _ _ st2 fun b _ o e => by
    rw [h3]; exact Heap.get?_push_of_some _ e
  have I4 := block_start I3 ok hN f3
  refine cont it D fp tn J s3 { s3 with heap := pushCells (s3.heap.push { cls := .type "dict", data := .dict #[] }) scope.names } (upd H2 D (TxO X.w D [])) _ _ ⟨I3, I4, T, ?_, fun b hb => (f3 b hb).1, rfl⟩ (q D hDn)
  exact T.keep _ _ _ st3 fun b _ o e => pushCells_keeps _ _ _ _ (Heap.get?_push_of_some _ e)
/-- one clause -/
def goT (w : World) (g : TG) (tt : TT) (te : TE) (vs : List Nat) (σ : L2.St) (Q : VK) (J : It) (D : Addr) (H0 : Hp) : Prop := ∃ W : Nat → Nat → Hp → Prop, (∃ m, W 0 m H0) ∧ ∀ i m H, W i m H →
  (J.stop i H ∧ Q (.ref D) H) ∨ (J.go i H ∧ ∃ Nx : Hp → Prop, (∀ H', Nx H' → ∃ m', m' < m ∧ W (i + 1) m' H') ∧ ∀ x H', J.yld i H x H' → g x (wipe σ vs) H' fun σ2 H2 => wipe σ2 vs = wipe σ vs ∧ tt σ2 H2 fun b H3 =>
    if b = true then te σ2 H3 fun y H4 => ∃ (z : Str) (ks : List Str), y = .str z ∧ H4 D = some (TxO w D ks) ∧ ks.length + 1 < scanBound ∧ Nx (upd H4 D (TxO w D (addT ks z))) else Nx H3)
def tScT (w : World) (wi : TI) (g : TG) (tt : TT) (te : TE) (vs : List Nat) : TE := fun σ H Q => wi σ H fun J H1 => ∀ D, H1 D = none → goT w g tt te vs σ Q J D (upd H1 D (TxO w D []))
theorem pe_scT {elt tg iter : Expr} {ifs : List Expr} {scope : Scope} {own : List (Str × Nat)} {pos : Pos} {wi : TI} {g : TG} {tt : TT} {te : TE} (hc : X.calm = true) (hN : X.N.Nodup) (hi : PI X tg iter wi) (ok : BlkOk X.N X.env.scope scope own)
    (hg : ∀ (s : Shared) (H : Hp) (C : Addr) (cl : List (Str × Addr)) (fp : List Addr), PG (blkAt X s H scope (compEnvC scope cl C X.env) fp) tg g)
    (ht : ∀ (s : Shared) (H : Hp) (C : Addr) (cl : List (Str × Addr)) (fp : List Addr), PTs (blkAt X s H scope (compEnvC scope cl C X.env) fp) ifs tt)
    (he : ∀ (s : Shared) (H : Hp) (C : Addr) (cl : List (Str × Addr)) (fp : List Addr), PE (blkAt X s H scope (compEnvC scope cl C X.env) fp) elt te) (hs : ∀ x, foldedSetIterable iter X.env x = pure x := by intro _; rfl) :
    PE X (.SetComp elt [⟨tg, iter, ifs, 0⟩] scope pos) (tScT X.w wi g tt te (own.map (·.2))) := by
  refine ⟨fun pins s σ H Q I h => ?_⟩
  rw [PpSet.eval_SetComp]
  refine sc_enter (Go := goT X.w g tt te (List.map (fun (p : Str × Nat) => p.2) own) σ Q) hN I hi ok hs h fun it D fp tn J s3 s4 H3 cl C e go => ?_
  have pg := hg s3 H3 C cl fp
  have pt := ht s3 H3 C cl fp
  have pe := he s3 H3 C cl fp
  generalize compEnvC scope cl C X.env = ce at e pg pt pe ⊢
  obtain ⟨W, ⟨m0, w0⟩, turn⟩ := go
  have T := e.tu
  have loop : codeAny (model X.prog X.w) X.A (.compLoop (.SetComp elt [⟨tg, iter, ifs, 0⟩] scope pos) 0 (.ref it) (.ref D) ce) (compPost (model X.prog X.w) X.A X.xe none (EP X pins σ Q) (.ref D) s3.heap.objs.size) s4 := by
    refine PpSet.compLoopS_any (fun n s' => ∃ i H', Inv (blkAt X s3 H3 scope ce fp) [] (wipe σ (own.map (·.2))) H' s' ∧ tn i s'.heap ∧ (∀ b ∈ fp, H' b = none) ∧ W i n H') ?_ m0 ⟨0, H3, e.i4, e.st, fun b hb => (e.fo b hb).1, w0⟩
    rintro n s5 ⟨i, H5, I5, st5, n5, w5⟩
    rcases turn i n H5 w5 with ⟨stop, qq⟩ | ⟨go, Nx, hNx, step⟩
    · refine thnF (T.done (blkAt X s3 H3 scope ce fp) rfl rfl rfl hc i [] s5 _ H5 (fun _ _ => False) I5 (e.stat I5 n5) st5 stop) fun r s6 ⟨hr, I6⟩ => ?_
      subst hr
      obtain ⟨I7, f7, m, hn⟩ := e.back I6
      refine ⟨m, hn, fun h'' sb => ?_⟩
      obtain ⟨f0, f1, f2, f3, f4, f5⟩ := f7
      exact ⟨.ref D, H5, I7.turned (t' := s6.toks) (fun b o hb q => (sb.2 b hb).trans q) f0 f1 f3 f4 f5, rfl, qq⟩
    · refine thnF (T.item (blkAt X s3 H3 scope ce fp) rfl rfl rfl hc i [] s5 _ H5 (fun _ _ => False) I5 (e.stat I5 n5) st5 go) fun r s6 ⟨u, hr, h6⟩ => ?_
      subst hr
      refine thnF h6 fun _ s7 ⟨x, H7, I7, r7, y7, st7, n7⟩ => ?_
      refine thnF (pg.run _ s7 _ H7 x u _ (I7.pinned (e.stat I7 n7) (T.obj _ _ st7)) r7 (step x H7 y7)) fun _ s8 ⟨σ8, H8, I8, hw8, q8⟩ => ?_
      refine thnF (pt.run _ s8 σ8 H8 _ I8 q8) fun b s9 ⟨H9, I9, q9⟩ => ?_
      have fin : ∀ {s' : Shared} {H' : Hp}, Inv (blkAt X s3 H3 scope ce fp) ([] ++ pinsAt fp s7.heap) σ8 H' s' → Nx H' → ∃ m, m < n ∧ ∃ i H', Inv (blkAt X s3 H3 scope ce fp) [] (wipe σ (own.map (·.2))) H' s' ∧ tn i s'.heap ∧ (∀ b ∈ fp, H' b = none) ∧ W i m H' := fun {s' H'} I' nx => by
        obtain ⟨m', hm, w'⟩ := hNx H' nx
        have pp : ∀ b ∈ fp, ∀ o, s7.heap.get? b = some o → s'.heap.get? b = some o ∧ H' b = none := fun b hb o q =>
          let z := I'.pin (b, o) (List.mem_append_right _ (List.mem_append_right _ (mem_pinsAt hb q)))
          ⟨z.1, z.2.1⟩
        refine ⟨m', hm, i + 1, H', (I'.unpinned (pins := [])).weak (by rw [← hw8, wipe_length]) (fun j v q => ?_), T.keep _ _ _ st7 fun b hb o q => (pp b hb o q).1, fun b hb => ?_, w'⟩
        · rw [← hw8] at q
          exact (wipe_some q).1
        · obtain ⟨o, q, _⟩ := T.obj _ _ st7 b hb
          exact (pp b hb o q).2
      cases b with
      | false =>
        simp only [Bool.false_eq_true, if_false] at q9 ⊢
        exact fin I9 q9
      | true =>
        simp only [if_true] at q9 ⊢
        refine thnF (pe.run _ s9 σ8 H9 _ I9 q9) fun zv s10 ⟨yv, H10, I10, r10, z, ks, ey, hD10, room, nx⟩ => ?_
        subst ey
        exact tx_addOk (X := blkAt X s3 H3 scope ce fp) I10 hD10 room r10 fun s11 I11 => fin I11 nx
  exact PpSet.codeAny_compStart_set loop (T.self X.A 0 _ _ _ e.st loop)
end
end Sd
namespace Sd
open PySem PySem.Spec PyProof.Rows L2
/-! {elt for t0 in i0 if .. for t1 in i1 if ..} of texts -/
abbrev sc2 (elt t0 i0 t1 i1 : Expr) (f0 f1 : List Expr) (scope : Scope) (pos : Pos) : Expr := .SetComp elt [⟨t0, i0, f0, 0⟩, ⟨t1, i1, f1, 0⟩] scope pos
section
variable {P : Program} {w : World} {A : Around} {R : Result → Shared → Prop} {s : Shared} {elt t0 i0 t1 i1 : Expr} {f0 f1 : List Expr} {scope : Scope} {pos : Pos} {it acc : Value} {env : Env}
abbrev noted (P : Program) (w : World) (A : Around) (env : Env) (R : Result → Shared → Prop) : Value → Shared → Prop := notedBy (model P w) A env fun e s' => R (.error e) s'
abbrev askAll (fs : List Expr) (env : Env) : Sem Bool := forIn fs true fun c r => if r = true then do let ok ← isTrue c env (eval c env); pure (ForInStep.yield ok) else pure (ForInStep.yield r)
theorem sc2_outer : compTurn (sc2 elt t0 i0 t1 i1 f0 f1 scope pos) 0 it acc env = (do
      standAt i0.pos
      match ← pyNext it with
      | none => pure (.done .next)
      | some v =>
        letOwnedTupleGo t0 it v
        assign t0 env v
        let ok ← askAll f0 env
        if ok then
          let x ← eval i1 env
          standAt i1.pos
          let x ← foldedSetIterable i1 env x
          let _ ← runOwn (.compStart (sc2 elt t0 i0 t1 i1 f0 f1 scope pos) 1 (← holding [x] (pyIter x)) acc env) env
        again (.compLoop (sc2 elt t0 i0 t1 i1 f0 f1 scope pos) 0 it acc env)) := by rfl
theorem sc2_inner : compTurn (sc2 elt t0 i0 t1 i1 f0 f1 scope pos) 1 it acc env = (do
      standAt i1.pos
      match ← pyNext it with
      | none => pure (.done .next)
      | some v =>
        letOwnedTupleGo t1 it v
        assign t1 env v
        let ok ← askAll f1 env
        if ok then
          (do let v ← eval elt env; standAt elt.pos; let _ ← call (.builtin "set.add") [acc, v])
        again (.compLoop (sc2 elt t0 i0 t1 i1 f0 f1 scope pos) 1 it acc env)) := by rfl
theorem sc2_loop0 (hs : ∀ x, foldedSetIterable i1 env x = pure x) (J : Nat → Shared → Prop)
    (turn : ∀ n s, J n s → wpAny (model P w) A (pyNext it) (fun r s₁ => match r with
      | none => R (.ok .next) s₁
      | some v => wpAny (model P w) A (letOwnedTupleGo t0 it v) (fun _ a1 => wpAny (model P w) A (assign t0 env v) (fun _ a2 => wpAny (model P w) A (askAll f0 env) (fun ok a3 =>
            if ok = true then wpAny (model P w) A (eval i1 env) (fun x a4 => wpAny (model P w) A (pyIter x) (fun it1 a5 =>
              codeAny (model P w) A (.compStart (sc2 elt t0 i0 t1 i1 f0 f1 scope pos) 1 it1 acc env) (fun r s' => match r with
                | .ok _ => ∃ m, m < n ∧ J m s'
                | .error _ => False) a5) (noted P w A env R) a4) (noted P w A env R) a3
            else ∃ m, m < n ∧ J m a3) (noted P w A env R) a2) (noted P w A env R) a1) (noted P w A env R) s₁) (noted P w A env R) s)
    (n : Nat) (h : J n s) : codeAny (model P w) A (.compLoop (sc2 elt t0 i0 t1 i1 f0 f1 scope pos) 0 it acc env) R s := by
  refine codeAny_loop rfl J (fun n s hI => ?_) n h
  show wpAny _ A ((compTurn (sc2 elt t0 i0 t1 i1 f0 f1 scope pos) 0 it acc env).onRaise (fun x => do noteFrame x env; theTreesLotGoes x)) _ _ s
  refine wpAny_noted ?_
  rw [sc2_outer]
  refine wpAny_bind (wpAny_standAt (wpAny_bind (wpAny_mono (turn n s hI) (fun r b1 k1 => ?_) fun _ _ z => z)))
  cases r with
  | none => exact wpAny_pure k1
  | some v =>
    refine wpAny_bind (wpAny_mono k1 (fun _ b2 k2 => ?_) fun _ _ z => z)
    refine wpAny_bind (wpAny_mono k2 (fun _ b3 k3 => wpAny_bind (wpAny_mono k3 (fun ok b4 k4 => ?_) fun _ _ z => z)) fun _ _ z => z)
    cases ok with
    | false => exact wpAny_pure ⟨rfl, k4⟩
    | true =>
      refine wpAny_bind (wpAny_mono k4 (fun x b5 k5 => ?_) fun _ _ z => z)
      refine wpAny_bind (wpAny_standAt (wpAny_bind (wpAny_of_eq (hs x) (wpAny_bind (wpAny_holding (wpAny_mono k5 (fun it1 b6 k6 => ?_) fun _ _ z => z))))))
      refine wpAny_bind (wpAny_runOwn ?_)
      rw [Around.mark_none]
      refine codeAny_mono k6 fun r s' hr => ?_
      cases r with
      | ok f =>
        first
          | exact wpAny_pure (And.intro rfl hr)
          | exact wpAny_bind (wpAny_pure (wpAny_pure (And.intro rfl hr)))
      | error e => exact hr.elim
theorem sc2_loop1 (J : Nat → Shared → Prop)
    (turn : ∀ n s, J n s → wpAny (model P w) A (pyNext it) (fun r s₁ => match r with
      | none => R (.ok .next) s₁
      | some v => wpAny (model P w) A (letOwnedTupleGo t1 it v) (fun _ a1 => wpAny (model P w) A (assign t1 env v) (fun _ a2 => wpAny (model P w) A (askAll f1 env) (fun ok a3 =>
            if ok = true then wpAny (model P w) A (eval elt env) (fun x a4 =>
              wpAny (model P w) A (call (.builtin "set.add") [acc, x]) (fun _ a5 => ∃ m, m < n ∧ J m a5) (noted P w A env R) a4) (noted P w A env R) a3
            else ∃ m, m < n ∧ J m a3) (noted P w A env R) a2) (noted P w A env R) a1) (noted P w A env R) s₁) (noted P w A env R) s)
    (n : Nat) (h : J n s) : codeAny (model P w) A (.compLoop (sc2 elt t0 i0 t1 i1 f0 f1 scope pos) 1 it acc env) R s := by
  refine codeAny_loop rfl J (fun n s hI => ?_) n h
  show wpAny _ A ((compTurn (sc2 elt t0 i0 t1 i1 f0 f1 scope pos) 1 it acc env).onRaise (fun x => do noteFrame x env; theTreesLotGoes x)) _ _ s
  refine wpAny_noted ?_
  rw [sc2_inner]
  refine wpAny_bind (wpAny_standAt (wpAny_bind (wpAny_mono (turn n s hI) (fun r b1 k1 => ?_) fun _ _ z => z)))
  cases r with
  | none => exact wpAny_pure k1
  | some v =>
    refine wpAny_bind (wpAny_mono k1 (fun _ b2 k2 => ?_) fun _ _ z => z)
    refine wpAny_bind (wpAny_mono k2 (fun _ b3 k3 => wpAny_bind (wpAny_mono k3 (fun ok b4 k4 => ?_) fun _ _ z => z)) fun _ _ z => z)
    cases ok with
    | false => exact wpAny_pure ⟨rfl, k4⟩
    | true =>
      exact wpAny_bind (wpAny_bind (wpAny_mono k4 (fun x b5 k5 => wpAny_bind (wpAny_standAt (wpAny_bind (wpAny_mono k5 (fun _ b6 k6 => wpAny_pure (wpAny_pure ⟨rfl, k6⟩)) fun _ _ z => z)))) fun _ _ z => z))
theorem sc2_start1 (k0 : codeAny (model P w) A (.compLoop (sc2 elt t0 i0 t1 i1 f0 f1 scope pos) 1 it acc env) R s)
    (k : wpAny (model P w) A (pyIter it) (fun it' s' => codeAny (model P w) A (.compLoop (sc2 elt t0 i0 t1 i1 f0 f1 scope pos) 1 it' acc env) R s') (noted P w A env R) s) :
    codeAny (model P w) A (.compStart (sc2 elt t0 i0 t1 i1 f0 f1 scope pos) 1 it acc env) R s := by
  refine codeAny_of_tree ?_
  show wpAny _ _ ((compStart (sc2 elt t0 i0 t1 i1 f0 f1 scope pos) 1 it acc env).onRaise (fun x => do noteFrame x env; standAt theWindowsPlace)) _ _ s
  refine wpAny_notedAt ?_
  unfold compStart
  show wpAny _ _ (ask >>= _) _ _ s
  refine wpAny_bind (wpAny_askSetting (wpAny_ite ?_))
  split
  · first
      | exact wpAny_bind (wpAny_pure (wpAny_pure ⟨rfl, k0⟩))
      | exact wpAny_pure ⟨rfl, k0⟩
  · first
      | exact wpAny_bind (wpAny_rule (wpAny_bind (wpAny_standAt (wpAny_bind (wpAny_mono k (fun _ _ z => wpAny_pure ⟨rfl, z⟩) fun _ _ z => z)))))
      | (refine wpAny_bind (wpAny_rule ?_); show wpAny _ _ (standAt i1.pos >>= _) _ _ s; exact wpAny_bind (wpAny_standAt (wpAny_bind (wpAny_mono k (fun _ _ z => wpAny_pure ⟨rfl, z⟩) fun _ _ z => z))))
end
section
variable {X : Cx}
def goT2 (w : World) (g : TG) (tt : TT) (wi1 : TI) (g1 : TG) (tt1 : TT) (te : TE) (vs vs1 : List Nat) (σ : L2.St) (Q : VK) (J : It) (D : Addr) (H0 : Hp) : Prop := ∃ W : Nat → Nat → Hp → Prop, (∃ m, W 0 m H0) ∧ ∀ i m H, W i m H →
  (J.stop i H ∧ Q (.ref D) H) ∨ (J.go i H ∧ ∃ Nx : Hp → Prop, (∀ H', Nx H' → ∃ m', m' < m ∧ W (i + 1) m' H') ∧ ∀ x H', J.yld i H x H' → g x (wipe σ vs) H' fun σ2 H2 => wipe σ2 vs = wipe σ vs ∧ tt σ2 H2 fun b H3 =>
    if b = true then wi1 σ2 H3 fun J1 H4 => ∃ W1 : Nat → Nat → Hp → Prop, (∃ m, W1 0 m H4) ∧ ∀ j k H, W1 j k H →
      (J1.stop j H ∧ Nx H) ∨ (J1.go j H ∧ ∃ Nx1 : Hp → Prop, (∀ H', Nx1 H' → ∃ k', k' < k ∧ W1 (j + 1) k' H') ∧ ∀ x H', J1.yld j H x H' → g1 x (wipe σ2 vs1) H' fun σ3 H5 => wipe σ3 vs1 = wipe σ2 vs1 ∧ tt1 σ3 H5 fun b H6 =>
        if b = true then te σ3 H6 fun y H7 => ∃ (z : Str) (ks : List Str), y = .str z ∧ H7 D = some (TxO w D ks) ∧ ks.length + 1 < scanBound ∧ Nx1 (upd H7 D (TxO w D (addT ks z))) else Nx1 H6)
    else Nx H3)
def tScT2 (w : World) (wi : TI) (g : TG) (tt : TT) (wi1 : TI) (g1 : TG) (tt1 : TT) (te : TE) (vs vs1 : List Nat) : TE := fun σ H Q => wi σ H fun J H1 => ∀ D, H1 D = none → goT2 w g tt wi1 g1 tt1 te vs vs1 σ Q J D (upd H1 D (TxO w D []))
theorem pe_scT2 {elt tg iter tg1 iter1 : Expr} {ifs ifs1 : List Expr} {scope : Scope} {own : List (Str × Nat)} {vs1 : List Nat} {pos : Pos} {wi wi1 : TI} {g g1 : TG} {tt tt1 : TT} {te : TE} (hc : X.calm = true) (hN : X.N.Nodup) (hi : PI X tg iter wi) (ok : BlkOk X.N X.env.scope scope own)
    (hv : ∀ i ∈ vs1, i ∈ own.map (·.2))
    (hg : ∀ (s : Shared) (H : Hp) (C : Addr) (cl : List (Str × Addr)) (fp : List Addr), PG (blkAt X s H scope (compEnvC scope cl C X.env) fp) tg g)
    (ht : ∀ (s : Shared) (H : Hp) (C : Addr) (cl : List (Str × Addr)) (fp : List Addr), PTs (blkAt X s H scope (compEnvC scope cl C X.env) fp) ifs tt)
    (hi1 : ∀ (s : Shared) (H : Hp) (C : Addr) (cl : List (Str × Addr)) (fp : List Addr), PI (blkAt X s H scope (compEnvC scope cl C X.env) fp) tg1 iter1 wi1)
    (hg1 : ∀ (s : Shared) (H : Hp) (C : Addr) (cl : List (Str × Addr)) (fp : List Addr), PG (blkAt X s H scope (compEnvC scope cl C X.env) fp) tg1 g1)
    (ht1 : ∀ (s : Shared) (H : Hp) (C : Addr) (cl : List (Str × Addr)) (fp : List Addr), PTs (blkAt X s H scope (compEnvC scope cl C X.env) fp) ifs1 tt1)
    (he : ∀ (s : Shared) (H : Hp) (C : Addr) (cl : List (Str × Addr)) (fp : List Addr), PE (blkAt X s H scope (compEnvC scope cl C X.env) fp) elt te)
    (hs : ∀ x, foldedSetIterable iter X.env x = pure x := by intro _; rfl) (hs1 : ∀ env x, foldedSetIterable iter1 env x = pure x := by intro _ _; rfl) :
    PE X (.SetComp elt [⟨tg, iter, ifs, 0⟩, ⟨tg1, iter1, ifs1, 0⟩] scope pos) (tScT2 X.w wi g tt wi1 g1 tt1 te (own.map (·.2)) vs1) := by
  refine ⟨fun pins s σ H Q I h => ?_⟩
  rw [PpSet.eval_SetComp]
  refine sc_enter (Go := goT2 X.w g tt wi1 g1 tt1 te (List.map (fun (p : Str × Nat) => p.2) own) vs1 σ Q) hN I hi ok hs h fun it D fp tn J s3 s4 H3 cl C e go => ?_
  have pg := hg s3 H3 C cl fp
  have pt := ht s3 H3 C cl fp
  have pe := he s3 H3 C cl fp
  have pi1 := hi1 s3 H3 C cl fp
  have pg1 := hg1 s3 H3 C cl fp
  have pt1 := ht1 s3 H3 C cl fp
  generalize compEnvC scope cl C X.env = ce at e pg pt pe pi1 pg1 pt1 ⊢
  obtain ⟨W, ⟨m0, w0⟩, turn⟩ := go
  have T := e.tu
  have loop : codeAny (model X.prog X.w) X.A (.compLoop (sc2 elt tg iter tg1 iter1 ifs ifs1 scope pos) 0 (.ref it) (.ref D) ce) (compPost (model X.prog X.w) X.A X.xe none (EP X pins σ Q) (.ref D) s3.heap.objs.size) s4 := by
    refine sc2_loop0 (hs1 ce) (fun n s' => ∃ i H', Inv (blkAt X s3 H3 scope ce fp) [] (wipe σ (own.map (·.2))) H' s' ∧ tn i s'.heap ∧ (∀ b ∈ fp, H' b = none) ∧ W i n H') ?_ m0 ⟨0, H3, e.i4, e.st, fun b hb => (e.fo b hb).1, w0⟩
    rintro n s5 ⟨i, H5, I5, st5, n5, w5⟩
    rcases turn i n H5 w5 with ⟨stop, qq⟩ | ⟨go, Nx, hNx, step⟩
    · refine thnF (T.done (blkAt X s3 H3 scope ce fp) rfl rfl rfl hc i [] s5 _ H5 (fun _ _ => False) I5 (e.stat I5 n5) st5 stop) fun r s6 ⟨hr, I6⟩ => ?_
      subst hr
      obtain ⟨I7, f7, m, hn⟩ := e.back I6
      refine ⟨m, hn, fun h'' sb => ?_⟩
      obtain ⟨f0, f1, f2, f3, f4, f5⟩ := f7
      exact ⟨.ref D, H5, I7.turned (t' := s6.toks) (fun b o hb q => (sb.2 b hb).trans q) f0 f1 f3 f4 f5, rfl, qq⟩
    · refine thnF (T.item (blkAt X s3 H3 scope ce fp) rfl rfl rfl hc i [] s5 _ H5 (fun _ _ => False) I5 (e.stat I5 n5) st5 go) fun r s6 ⟨u, hr, h6⟩ => ?_
      subst hr
      refine thnF h6 fun _ s7 ⟨x, H7, I7, r7, y7, st7, n7⟩ => ?_
      refine thnF (pg.run _ s7 _ H7 x u _ (I7.pinned (e.stat I7 n7) (T.obj _ _ st7)) r7 (step x H7 y7)) fun _ s8 ⟨σ8, H8, I8, hw8, q8⟩ => ?_
      refine thnF (pt.run _ s8 σ8 H8 _ I8 q8) fun b s9 ⟨H9, I9, q9⟩ => ?_
      have fin : ∀ {σ9 : L2.St} {s' : Shared} {H' : Hp}, Inv (blkAt X s3 H3 scope ce fp) ([] ++ pinsAt fp s7.heap) σ9 H' s' → (wipe σ (own.map (·.2))).length = σ9.length → (∀ (j : Nat) v, (wipe σ (own.map (·.2)))[j]? = some (some v) → σ9[j]? = some (some v)) → Nx H' →
          ∃ m, m < n ∧ ∃ i H', Inv (blkAt X s3 H3 scope ce fp) [] (wipe σ (own.map (·.2))) H' s' ∧ tn i s'.heap ∧ (∀ b ∈ fp, H' b = none) ∧ W i m H' := fun {σ9 s' H'} I' hl hk nx => by
        obtain ⟨m', hm, w'⟩ := hNx H' nx
        have pp : ∀ b ∈ fp, ∀ o, s7.heap.get? b = some o → s'.heap.get? b = some o ∧ H' b = none := fun b hb o q =>
          let z := I'.pin (b, o) (List.mem_append_right _ (List.mem_append_right _ (mem_pinsAt hb q)))
          ⟨z.1, z.2.1⟩
        refine ⟨m', hm, i + 1, H', (I'.unpinned (pins := [])).weak hl hk, T.keep _ _ _ st7 fun b hb o q => (pp b hb o q).1, fun b hb => ?_, w'⟩
        obtain ⟨o, q, _⟩ := T.obj _ _ st7 b hb
        exact (pp b hb o q).2
      have l8 : (wipe σ (own.map (·.2))).length = σ8.length := by rw [← hw8, wipe_length]
      have k8 : ∀ (j : Nat) v, (wipe σ (own.map (·.2)))[j]? = some (some v) → σ8[j]? = some (some v) := fun j v q => by
        rw [← hw8] at q; exact (wipe_some q).1
      have k9 : ∀ (j : Nat) v, (wipe σ (own.map (·.2)))[j]? = some (some v) → (wipe σ8 vs1)[j]? = some (some v) := fun j v q => by
        rw [← hw8] at q
        obtain ⟨q1, q2⟩ := wipe_some q
        rw [wipe_out fun z => q2 (hv j z)]
        exact q1
      cases b with
      | false =>
        simp only [Bool.false_eq_true, if_false] at q9 ⊢
        exact fin I9 l8 k8 q9
      | true =>
        simp only [if_true] at q9 ⊢
        refine thnF (pi1.run _ s9 σ8 H9 _ I9 q9) fun xv s10 hx => thnF hx fun itv s11 ⟨it1, fp1, tn1, J1, H11, e1, I11, T1, st11, f11, W1, ⟨m1, w1⟩, turn1⟩ => ?_
        subst e1
        have stat1 : ∀ {H' : Hp}, (∀ b ∈ fp1, H' b = none) → ∀ b ∈ fp1, FpOk (blkAt X s3 H3 scope ce fp) ([] ++ pinsAt fp s7.heap) H' b := fun hn b hb => ⟨hn b hb, (f11 b hb).2⟩
        have loop1 : codeAny (model X.prog X.w) X.A (.compLoop (sc2 elt tg iter tg1 iter1 ifs ifs1 scope pos) 1 (.ref it1) (.ref D) ce)
            (fun r s' => match r with
              | .ok _ => ∃ m, m < n ∧ ∃ i H', Inv (blkAt X s3 H3 scope ce fp) [] (wipe σ (own.map (·.2))) H' s' ∧ tn i s'.heap ∧ (∀ b ∈ fp, H' b = none) ∧ W i m H'
              | .error _ => False) s11 := by
          refine sc2_loop1 (fun k s' => ∃ j H', Inv (blkAt X s3 H3 scope ce fp) ([] ++ pinsAt fp s7.heap) (wipe σ8 vs1) H' s' ∧ tn1 j s'.heap ∧ (∀ b ∈ fp1, H' b = none) ∧ W1 j k H') ?_ m1
            ⟨0, H11, I11.weak (wipe_length _ _) (fun j v q => (wipe_some q).1), st11, fun b hb => (f11 b hb).1, w1⟩
          rintro k s12 ⟨j, H12, I12, st12, n12, w12⟩
          rcases turn1 j k H12 w12 with ⟨stop1, nx1⟩ | ⟨go1, Nx1, hNx1, step1⟩
          · refine thnF (T1.done (blkAt X s3 H3 scope ce fp) rfl rfl rfl hc j _ s12 (wipe σ8 vs1) H12 (fun _ _ => False) I12 (stat1 n12) st12 stop1) fun r s13 ⟨hr, I13⟩ => ?_
            subst hr
            exact fin I13 (l8.trans (wipe_length σ8 vs1).symm) k9 nx1
          · refine thnF (T1.item (blkAt X s3 H3 scope ce fp) rfl rfl rfl hc j _ s12 (wipe σ8 vs1) H12 (fun _ _ => False) I12 (stat1 n12) st12 go1) fun r s13 ⟨u1, hr, h13⟩ => ?_
            subst hr
            refine thnF h13 fun _ s14 ⟨x1, H14, I14, r14, y14, st14, n14⟩ => ?_
            refine thnF (pg1.run _ s14 (wipe σ8 vs1) H14 x1 u1 _ (I14.pinned (stat1 n14) (T1.obj _ _ st14)) r14 (step1 x1 H14 y14)) fun _ s15 ⟨σ15, H15, I15, hw15, q15⟩ => ?_
            refine thnF (pt1.run _ s15 σ15 H15 _ I15 q15) fun b1 s16 ⟨H16, I16, q16⟩ => ?_
            have fin1 : ∀ {s' : Shared} {H' : Hp}, Inv (blkAt X s3 H3 scope ce fp) (([] ++ pinsAt fp s7.heap) ++ pinsAt fp1 s14.heap) σ15 H' s' → Nx1 H' →
                ∃ m, m < k ∧ ∃ j H', Inv (blkAt X s3 H3 scope ce fp) ([] ++ pinsAt fp s7.heap) (wipe σ8 vs1) H' s' ∧ tn1 j s'.heap ∧ (∀ b ∈ fp1, H' b = none) ∧ W1 j m H' := fun {s' H'} I' nx => by
              obtain ⟨m', hm, w'⟩ := hNx1 H' nx
              have pp : ∀ b ∈ fp1, ∀ o, s14.heap.get? b = some o → s'.heap.get? b = some o ∧ H' b = none := fun b hb o q =>
                let z := I'.pin (b, o) (List.mem_append_right _ (List.mem_append_right _ (mem_pinsAt hb q)))
                ⟨z.1, z.2.1⟩
              refine ⟨m', hm, j + 1, H', I'.unpinned.weak (by rw [← hw15, wipe_length]) (fun j v q => by rw [← hw15] at q; exact (wipe_some q).1), T1.keep _ _ _ st14 fun b hb o q => (pp b hb o q).1, fun b hb => ?_, w'⟩
              obtain ⟨o, q, _⟩ := T1.obj _ _ st14 b hb
              exact (pp b hb o q).2
            cases b1 with
            | false =>
              simp only [Bool.false_eq_true, if_false] at q16 ⊢
              exact fin1 I16 q16
            | true =>
              simp only [if_true] at q16 ⊢
              refine thnF (pe.run _ s16 σ15 H16 _ I16 q16) fun zv s17 ⟨yv, H17, I17, r17, z, ks, ey, hD17, room, nx⟩ => ?_
              subst ey
              exact tx_addOk (X := blkAt X s3 H3 scope ce fp) I17 hD17 room r17 fun s18 I18 => fin1 I18 nx
        exact sc2_start1 loop1 (T1.self X.A 0 _ _ _ st11 loop1)
  exact PpSet.codeAny_compStart_set loop (T.self X.A 0 _ _ _ e.st loop)
end
end Sd
namespace Sd
open PySem PySem.Spec PyProof.Rows L2
open AutoSeq1 (wpAny_loadPart')
/-! for i, x in enumerate(t), t a tuple -/
abbrev tupIt (l : Addr) : Obj := { cls := .type "tuple_iterator", data := .fields #[.ref l, .int 0 0] }
abbrev enumIt (it : Addr) : Obj := { cls := .type "enumerate", data := .fields #[.none, .bool false, .ref it, rawInt 0, .none, .none] }
theorem meets_enumT (l : Addr) (items : Array Value) (n : Nat) (dct : Option Addr) (sl : Array (Option Value)) :
    Meets (Builtin.«enumerate.__new__» ⟨[.type "enumerate", .ref l], []⟩) (fun _ R s => s.heap.get? l = some { cls := .type "tuple", dict := dct, data := .seq items n, slots := sl } ∧
      R (.ok (.ret (.ref (s.heap.push (tupIt l)).objs.size))) { s with heap := (s.heap.push (tupIt l)).push (enumIt s.heap.objs.size) }) :=
  .of_wp fun P w A R s h => by
    obtain ⟨hp, g, d, tk, os⟩ := s; obtain ⟨hl, h⟩ := h
    have hsub := sub_enumerate
    have hL : Heap.IsTuple (Shared.heap ⟨hp, g, d, tk, os⟩) l items := ⟨_, hl, rfl, n, rfl⟩
    wp_walk using wpAny_loadPart' hl
    refine wpAny_stack_any fun st => wpAny_pure ?_
    split
    · rename_i c _ _ _ _ _
      cases (c == Value.type "enumerate")
      · wp_walk using wpAny_loadPart' hl, wpAny_pyIter_tuple hL
        exact ⟨_, rfl, h⟩
      · wp_walk using wpAny_loadPart' hl, wpAny_pyIter_tuple hL
        exact ⟨_, rfl, h⟩
    · wp_walk using wpAny_loadPart' hl, wpAny_pyIter_tuple hL
      exact ⟨_, rfl, h⟩
section
variable {P : Program} {w : World} {A : Around} {E : Value → Shared → Prop} {s : Shared}
theorem call_enumT {l : Addr} {items : Array Value} {Q : Value → Shared → Prop} (hL : s.heap.IsTuple l items)
    (h : ∀ h', IsEnum h' (s.heap.objs.size + 1) s.heap.objs.size 0 .none → h'.IsTupleIter s.heap.objs.size l 0 → (∀ b o, s.heap.get? b = some o → h'.get? b = some o) → Q (.ref (s.heap.objs.size + 1)) { s with heap := h' }) :
    wpAny (model P w) A (call (.type "enumerate") [.ref l]) Q E s := by
  obtain ⟨⟨c, dct, dt, sl⟩, hl, hc, n, hd⟩ := hL
  obtain rfl : c = .type "tuple" := hc
  obtain rfl : dt = .seq items n := hd
  refine callType_new F.called_enumerate (by decide) (F.typeCall_enumerate_1 _) (F.newCall_enumerate_1 _) (fun obj => F.args_object_init_2 obj _) F.entry_enumerate_new
    (meets_enumT l items n dct sl) ⟨hl, ?_⟩
  have hz : (s.heap.push (tupIt l)).objs.size = s.heap.objs.size + 1 := Heap.size_push ..
  show _ ∧ _
  rw [hz]
  have he : IsEnum ((s.heap.push (tupIt l)).push (enumIt s.heap.objs.size)) (s.heap.objs.size + 1) s.heap.objs.size 0 .none := by
    have q := Heap.get?_push_size (s.heap.push (tupIt l)) (o := enumIt s.heap.objs.size) rfl
    rw [hz] at q; exact q
  exact ⟨⟨_, he, rfl⟩, h _ he ⟨_, Heap.get?_push_of_some _ (Heap.get?_push_size _ rfl), rfl, rfl⟩ fun b o x => Heap.get?_push_of_some _ (Heap.get?_push_of_some _ x)⟩
end
theorem enumT_end {P : Program} {w : World} {A : Around} {E : Value → Shared → Prop} {s : Shared} {e it l : Addr} {i : Nat} {items : Array Value} {old : Value} {Q : Option Value → Shared → Prop} (hh : A.handled = none)
    (he : IsEnum s.heap e it i old) (hit : s.heap.IsTupleIter it l i) (hl : s.heap.IsTuple l items) (hx : items[i]? = none)
    (hQ : ∀ h', Heap.ExtBut it s.heap h' → Q none { s with heap := h' }) : wpAny (model P w) A (pyNext (.ref e)) Q E s := by
  have ht : s.TypeIs (.ref e) "enumerate" := ⟨_, he, rfl⟩
  unfold pyNext
  refine wpAny_bind (wpAny_attempt (wpAny_callSpecial?_slot (name := Str.ofString "__next__") ht F.slot_enumerate_next
    (wpAny_call_entry F.slot_enumerate_next ht F.entry_enumerate_next ?_ (F.args_enumerate_next_1 _))))
  show wpAny _ _ (field (.ref e) 2 >>= _) _ _ _
  refine wpAny_bind (wpAny_field he rfl (x := .ref it) rfl ?_)
  refine wpAny_bind (wpAny_nextOf_tuple_end hh hit hl hx fun h' x k ⟨o, ho, hc⟩ => ?_)
  refine wpAny_bind (wpAny_isInstance (T := "StopIteration") (b := true) ⟨o, ho, hc⟩ isSubtype_stop ?_)
  exact wpAny_pure (hQ _ k)
def IteT (K : PySem.W.Frag) (a : Addr) : It :=
  ⟨fun i H => ∃ (xs : List V) (x : V), SqT K H a xs ∧ xs[i]? = some x, fun i H v H' => ∃ T x, v = .ref T ∧ H T = none ∧ H' = upd H T (.tup [.int (i : Nat), x]) ∧ ∀ xs, SqT K H a xs → xs[i]? = some x, fun i H => ∃ xs : List V, SqT K H a xs ∧ xs.length ≤ i⟩
theorem turn_enumT {P : Program} {w : World} {K : PySem.W.Frag} {elts : List Expr} {kk : Nat} {tpos : Pos} (a e it : Addr) :
    Turn P w K (.Tuple elts kk tpos) (IteT K a) [e, it] e (fun i h => (∃ old, IsEnum h e it ((i : Nat) : Int) old) ∧ h.IsTupleIter it a i ∧ e ≠ it ∧ a ≠ it ∧ e ≠ a) where
  mem := by simp
  obj := fun i h st b hb => by
    obtain ⟨⟨old, he⟩, ⟨o, ho, hc, hd⟩, _⟩ := st
    rcases (show b = e ∨ b = it by simpa using hb) with z | z
    · rw [z]; exact ⟨_, he, fun v q => nomatch q⟩
    · rw [z]; exact ⟨o, ho, fun v q => by rw [hd] at q; cases q⟩
  keep := fun i h h' st k => let ⟨⟨old, he⟩, hi, hne⟩ := st; ⟨⟨old, k e (by simp) _ he⟩, hi.at fun o q => k it (by simp) o q, hne⟩
  item := by
    intro X hP hw hK hc i pins s σ H E I hf st hg
    subst hP hw hK
    obtain ⟨⟨old, he⟩, hit, hne, hai, hea⟩ := st
    obtain ⟨xs, x, hq, hx⟩ := hg
    obtain ⟨its, rv, p, hz⟩ := I.tuple hq
    obtain ⟨u, hu, ru⟩ := rv.get hx
    have hel : e < s.heap.objs.size := Heap.lt_size he
    have hil : it < s.heap.objs.size := by obtain ⟨_, q, _⟩ := hit; exact Heap.lt_size q
    have hT0 : s.heap.IsTuple a its.toArray := let ⟨o, ho, hcl, hd⟩ := p; ⟨o, ho, hcl, hd⟩
    have hlt : i < its.toArray.size := by
      have := (List.getElem?_eq_some_iff.mp hu).1
      simpa using this
    refine wpAny_pyNext_enum_itemD (Draws.tuple (A := X.A.in1) (by simpa using I.ok.hd hc) it a hai its.toArray) he ⟨hit, hT0⟩ hlt hne (by simp [hne, hea]) fun y h' tk hy ho st' hT hsz hk => ?_
    have ey : y = u := by
      have hy' : its[i]? = some y := by simpa using hy
      exact Option.some.inj (hy'.symm.trans hu)
    subst ey
    refine ⟨_, rfl, wpAny_letOwnedTupleGo_enum (s := { s with heap := h', toks := tk + 1 }) ho fun h'' he' sb => ?_⟩
    have hT2 : h''.get? s.heap.objs.size = some { cls := .type "tuple", data := .seq #[.int i tk, y] } := (sb.2 _ (Nat.ne_of_gt hel)).trans hT
    have new : ObjOk X.prog X.w (upd H s.heap.objs.size (.tup [.int (i : Nat), x])) h'' s.heap.objs.size (.tup [.int (i : Nat), x]) :=
      ⟨by show 2 ≤ sizeLine; decide, [.int i tk, y], .cons ⟨_, rfl⟩ (.cons ru .nil), ⟨_, hT2, rfl, _, rfl⟩⟩
    have I1 : Inv X pins σ (upd H s.heap.objs.size (.tup [.int (i : Nat), x])) { s with heap := h'', toks := tk + 1 } :=
      I.turnedNew (ch := [e, it]) (fun b ob hb q => (sb.2 b (fun z => hb (by simp [z]))).trans (hk b ob (fun z => hb (by simp [z])) (fun z => hb (by simp [z])) q)) hf (Nat.le_refl _) new
    refine ⟨.ref s.heap.objs.size, _, I1, rfl, ⟨_, x, rfl, I.hok.fresh (Nat.le_refl _), rfl, fun ys hy => by rw [I.tuple_inj hy hq]; exact hx⟩, ⟨⟨y, ?_⟩, st'.1.at fun o q => (sb.2 it (Ne.symm hne)).trans q, hne, hai, hea⟩, fun b hb => ?_⟩
    · rw [show ((i + 1 : Nat) : Int) = (i : Int) + 1 by omega]
      exact he'
    · have hb' : b < s.heap.objs.size := by
        rcases (show b = e ∨ b = it by simpa using hb) with z | z
        · rw [z]; exact hel
        · rw [z]; exact hil
      rw [upd_ne (Nat.ne_of_lt hb')]
      exact (hf b hb).1
  done := by
    intro X hP hw hK hc i pins s σ H E I hf st hg
    subst hP hw hK
    obtain ⟨⟨old, he⟩, hit, hne, hai, hea⟩ := st
    obtain ⟨xs, hq, hx⟩ := hg
    obtain ⟨its, rv, p, hz⟩ := I.tuple hq
    obtain ⟨f0, f1, f2, f3, f4, f5⟩ := hf it (by simp)
    have hT0 : s.heap.IsTuple a its.toArray := let ⟨o, ho, hcl, hd⟩ := p; ⟨o, ho, hcl, hd⟩
    have hl := rv.length
    exact enumT_end (I.ok.hd hc) he hit hT0 (by simp; omega) fun h' eb => ⟨rfl, I.turned (t' := s.toks) (fun b o hb q => eb b o hb q) f0 f1 f3 f4 f5⟩
  self := fun A i s Q E st h => let ⟨⟨_, he⟩, _⟩ := st; wpAny_pyIter_enum he h
def iEnumT (K : PySem.W.Frag) (ta : TA) : TI := fun σ H R => ta σ H fun vs H1 => ∃ a xs, vs = [.ref a] ∧ SqT K H1 a xs ∧ R (IteT K a) H1
theorem pi_enumT {X : Cx} {e : Expr} {ta : TA} {p pos tpos : Pos} {elts : List Expr} {kk : Nat} (hg : Gl X "enumerate") (hm : X.mg "enumerate" = none) (ha : PA X [e] ta) (hs : starEach [e] X.env = [(false, eval e X.env)] := by rfl) :
    PI X (.Tuple elts kk tpos) (.Call (.Name "enumerate" p) [e] [] pos) (iEnumT X.K ta) := by
  refine ⟨fun pins s σ H R I h => ?_⟩
  refine Call_ (ld_blt I hg hm boot_enumerate (PyProof.Rows.callWith_type1 (thn (ha.run pos pins s σ H _ I h) fun us s1 ⟨vs, H1, I1, r1, q1⟩ => ?_) hs rfl))
  obtain ⟨a, xs, ex, hq, q⟩ := q1
  subst ex
  cases r1 with
  | cons r rr =>
    cases rr
    cases r
    obtain ⟨its, rv, pp, hz⟩ := I1.tuple hq
    have hT0 : s1.heap.IsTuple a its.toArray := let ⟨o, ho, hcl, hd⟩ := pp; ⟨o, ho, hcl, hd⟩
    have hlt : a < s1.heap.objs.size := let ⟨o, ho, _⟩ := hT0; Heap.lt_size ho
    refine call_enumT hT0 fun h' he hit hk => wpAny_pyIter_enum he ?_
    have I2 : Inv X pins σ H1 { s1 with heap := h' } := I1.kept (t' := s1.toks) hk
    refine ⟨s1.heap.objs.size + 1, [s1.heap.objs.size + 1, s1.heap.objs.size], _, _, H1, rfl, I2, turn_enumT a (s1.heap.objs.size + 1) s1.heap.objs.size,
      ⟨⟨.none, he⟩, hit, Nat.succ_ne_self _, Nat.ne_of_lt hlt, Nat.ne_of_gt (Nat.lt_succ_of_lt hlt)⟩, fun b hb => ?_, q⟩
    have hle : s1.heap.objs.size ≤ b := by
      rcases (show b = s1.heap.objs.size + 1 ∨ b = s1.heap.objs.size by simpa using hb) with z | z
      · rw [z]; exact Nat.le_add_right _ _
      · rw [z]; exact Nat.le_refl _
    exact I1.fpOk hle (I1.hok.fresh hle)
/-- the loop over it: an invariant by the turn -/
theorem for_enumT {K : PySem.W.Frag} {a : Addr} {xs : List V} {g : TG} {tb : TS} {D : Ends} {σ : L2.St} {H : Hp} (Pv : Nat → L2.St → Hp → Prop) (h0 : Pv 0 σ H) (hl : ∀ i σ H, i ≤ xs.length → Pv i σ H → SqT K H a xs)
    (hs : ∀ i x T σ H, xs[i]? = some x → Pv i σ H → H T = none → g (.ref T) σ (upd H T (.tup [.int (i : Nat), x])) fun σ2 H2 => tb { nx := Pv (i + 1), rt := D.rt, bk := D.nx, ct := Pv (i + 1) } σ2 H2)
    (hd : ∀ σ H, Pv xs.length σ H → D.nx σ H) :
    ∃ W : Nat → Nat → L2.St → Hp → Prop, (∃ m, W 0 m σ H) ∧ ∀ i m σ H, W i m σ H → (IteT K a).stop i H ∧ D.nx σ H ∨ (IteT K a).go i H ∧ ∃ N : L2.St → Hp → Prop, (∀ σ' H', N σ' H' → ∃ m', m' < m ∧ W (i + 1) m' σ' H') ∧
      ∀ x H', (IteT K a).yld i H x H' → g x σ H' fun σ2 H2 => tb { nx := N, rt := D.rt, bk := D.nx, ct := N } σ2 H2 := by
  refine ⟨fun i m σ H => m = xs.length - i ∧ i ≤ xs.length ∧ Pv i σ H, ⟨xs.length, by simp, Nat.zero_le _, h0⟩, ?_⟩
  rintro i m σ H ⟨rfl, hi, p⟩
  have q := hl i σ H hi p
  by_cases hlt : i < xs.length
  · refine .inr ⟨⟨xs, xs[i], q, by simp [hlt]⟩, Pv (i + 1), fun σ' H' p' => ⟨xs.length - (i + 1), by omega, rfl, hlt, p'⟩, fun x H' y => ?_⟩
    obtain ⟨T, z, rfl, hT, rfl, hz⟩ := y
    exact hs i z T σ H (hz xs q) p hT
  · have e : i = xs.length := by omega
    subst e
    exact .inl ⟨⟨xs, q, Nat.le_refl _⟩, hd σ H p⟩
end Sd
namespace Sd
open PySem PySem.Spec PyProof.Rows L2
/-! the written part, the program, the world; the classes by name -/
structure Ga where
  K : PySem.W.Frag
  P : Program
  w : World
def Ga.c (g : Ga) (x : Str) : Addr := He.ga g.K x
abbrev Ga.cHand (g : Ga) : Addr := g.c "Hand"
abbrev Ga.cSystem (g : Ga) : Addr := g.c "System"
abbrev Ga.cDeeds (g : Ga) : Addr := g.c "Deeds"
abbrev Ga.cDesk (g : Ga) : Addr := g.c "Desk"
abbrev Ga.cBadState (g : Ga) : Addr := g.c "BadState"
abbrev Ga.cBadSteps (g : Ga) : Addr := g.c "BadSteps"
abbrev Ga.cBadHands (g : Ga) : Addr := g.c "BadHands"
abbrev Ga.cBadDiligent (g : Ga) : Addr := g.c "BadDiligent"
abbrev Ga.cBadWords (g : Ga) : Addr := g.c "BadWords"
abbrev Ga.cBadStates (g : Ga) : Addr := g.c "BadStates"
abbrev Ga.cBadMove (g : Ga) : Addr := g.c "BadMove"
abbrev Ga.cBadRun (g : Ga) : Addr := g.c "BadRun"
abbrev Ga.cTooMany (g : Ga) : Addr := g.c "TooMany"
abbrev Ga.cNothingDone (g : Ga) : Addr := g.c "NothingDone"
/-! ### the readings by name -/
abbrev rAdd : R2 := rI0 fun i j => .int (i + j)
abbrev rSub : R2 := rI0 fun i j => .int (i - j)
abbrev rMul : R2 := rI CMul fun i j => .int (i * j)
abbrev rDiv : R2 := rI CDivW fun i j => .int (i / j)
abbrev rMod : R2 := rI (fun _ j => 0 < j) fun i j => .int (i % j)
abbrev rPow : R2 := rI CPow fun i j => .int (i ^ j.toNat)
abbrev rLt : R2 := rI0 fun i j => .bl (decide (i < j))
abbrev rLe : R2 := rI0 fun i j => .bl (decide (i ≤ j))
abbrev rGt : R2 := rI0 fun i j => .bl (decide (j < i))
abbrev rGe : R2 := rI0 fun i j => .bl (decide (j ≤ i))
abbrev rNeg : V → Hp → VK → Prop := rU fun i => .int (-i)
def rAddS : R2 := fun x y H Q => ∃ i j, x = .str i ∧ y = .str j ∧ i.length + j.length ≤ sizeLine ∧ Q (.str (i ++ j)) H
def rInt1 : List V → Hp → VK → Prop := fun xs H Q => (∃ i, xs = [.int i] ∧ Q (.int i) H) ∨ ∃ k, xs = [.bl k] ∧ Q (.int (if k then 1 else 0)) H
def rLenS (K : PySem.W.Frag) : List V → Hp → VK → Prop := fun xs H Q => ∃ p ys, xs = [.ref p] ∧ (SqL K H p ys ∨ SqT K H p ys) ∧ Q (.int ys.length) H
def rLenStr : List V → Hp → VK → Prop := fun xs H Q => ∃ z, xs = [.str z] ∧ z.length ≤ sizeLine ∧ Q (.int z.length) H
def rLen (K : PySem.W.Frag) : List V → Hp → VK → Prop := fun xs H Q => ∃ x n, xs = [x] ∧ LenV K x H n ∧ Q (.int n) H
def rListS (K : PySem.W.Frag) : List V → Hp → VK → Prop := fun xs H Q => ∃ p ys, xs = [.ref p] ∧ (SqL K H p ys ∨ SqT K H p ys) ∧ ∀ l, H l = none → Q (.ref l) (upd H l (.lst ys))
def rTupS (K : PySem.W.Frag) : List V → Hp → VK → Prop := fun xs H Q => ∃ p ys, xs = [.ref p] ∧ ((SqL K H p ys ∧ ∀ l, H l = none → Q (.ref l) (upd H l (.tup ys))) ∨ (SqT K H p ys ∧ Q (.ref p) H))
abbrev rApp : V → List V → Hp → VK → Prop := rAppend
abbrev rExt : V → List V → Hp → VK → Prop := rExtend
abbrev rClr : V → List V → Hp → VK → Prop := rClear
section
variable {X : Cx}
theorem o_add : OpR X (binaryOp .Add) rAdd := op_add
theorem o_sub : OpR X (binaryOp .Sub) rSub := op_sub
theorem o_mul : OpR X (binaryOp .Mult) rMul := op_mul
theorem o_div : OpR X (binaryOp .FloorDiv) rDiv := op_fdivW
theorem o_mod : OpR X (binaryOp .Mod) rMod := op_mod
theorem o_pow : OpR X (binaryOp .Pow) rPow := op_pow
theorem o_cat : OpR X (binaryOp .Add) rCat := op_cat
theorem o_catA : OpR X (binaryOp .Add) (rCatA X.K) := op_catA
theorem o_adds : OpR X (binaryOp .Add) rAddS := op_add_str
theorem o_lt : OpR X (compareOp .Lt) rLt := op_lt
theorem o_le : OpR X (compareOp .LtE) rLe := op_le
theorem o_gt : OpR X (compareOp .Gt) rGt := op_gt
theorem o_ge : OpR X (compareOp .GtE) rGe := op_ge
theorem o_eq : OpR X (compareOp .Eq) rEq := op_eq
theorem o_ne : OpR X (compareOp .NotEq) rNe := op_ne
theorem o_eqD {k : Nat} (hr : Room k X.A) : OpR X (compareOp .Eq) (rEqD X.K) := op_eqD hr.units
theorem o_neD {k : Nat} (hr : Room k X.A) : OpR X (compareOp .NotEq) (rNeD X.K) := op_neD hr.units
theorem o_in : OpR X (compareOp .In) (rIn X.K false) := op_in_seq
theorem o_nin : OpR X (compareOp .NotIn) (rIn X.K true) := op_notIn_seq
theorem o_ins : OpR X (compareOp .In) rInS := op_inS
theorem o_nins : OpR X (compareOp .NotIn) rNotInS := op_notInS
theorem room65 {k : Nat} {A : Around} (hr : Room k A) : A.units + 65 < cLine := by
  have := hr.un
  omega
theorem o_inD {k : Nat} (hr : Room k X.A) : OpR X (compareOp .In) (rInD X.K) := op_inD (room65 hr)
theorem o_ninD {k : Nat} (hr : Room k X.A) : OpR X (compareOp .NotIn) (rNotInD X.K) := op_notInD (room65 hr)
theorem o_isN : OpR X (compareOp .Is) rIsN := op_isN1
theorem o_notN : OpR X (compareOp .IsNot) rNotN := op_notN1
theorem o_neg : UnR X (unaryOp .USub) rNeg := un_neg
theorem c_len : CallR X (.builtin "len") (rLen X.K) := call_len
/-! names of the module -/
theorem pe_gI {x : Str} {i : Int} {pos : Pos} (h : ∃ t, X.mg x = some (.int i t)) (hg : Gl X x := by rfl) (hd : (x == ("__debug__" : Str)) = false := by decide) : PE X (.Name x pos) (tC (.int i)) :=
  let ⟨_, e⟩ := h
  pe_glob hg e ⟨_, rfl⟩ hd
theorem pe_gS {x : Str} {z : Str} {pos : Pos} (h : ∃ t, X.mg x = some (.str z t)) (hg : Gl X x := by rfl) (hd : (x == ("__debug__" : Str)) = false := by decide) : PE X (.Name x pos) (tC (.str z)) :=
  let ⟨_, e⟩ := h
  pe_glob hg e ⟨_, rfl⟩ hd
theorem pe_cl {x : Str} {C : Addr} {pos : Pos} (h : X.mg x = some (.ref C)) (hg : Gl X x := by rfl) (hd : (x == ("__debug__" : Str)) = false := by decide) : PE X (.Name x pos) (tC (.ref C)) := pe_glob hg h rfl hd
theorem pe_ty {x : Str} {n : String} {pos : Pos} (h : X.mg x = none) (hv : bootBuiltins x = some (.type n) := by decide +kernel) (hg : Gl X x := by rfl) (hn : x ≠ "__name__" := by decide) (hd : (x == ("__debug__" : Str)) = false := by decide) : PE X (.Name x pos) (tC (.ty n)) :=
  pe_bltn hg h hv rfl hn hd
theorem p_truth {a : Expr} {ta : TE} (ha : PE X a ta) (he : ∀ whole, isTrue a X.env whole = (do let v ← whole; standAt a.pos; holding [v] (truthy v)) := by intro _; rfl) : PT X a (tTru X.K ta) := pt_truth ha he
end
/-! ### defs of the module by name; none of them, or (CX) some exception is let out -/
structure Cal (g : Ga) (mg : Str → Option Value) (base : Heap) (lv : Nat) (x : Str) (ps : List Str) (dvs : List V) (sp : Sp) : Prop where
  ex : ∃ f fd ds, FnOk g.P g.w g.K mg base (L2.CX g.P g.w) lv f fd ps sp ∧ mg x = some (.ref f) ∧ PySem.W.keepIn g.K (.ref f) = true ∧ Binds g.K fd ps ds ∧ Vals dvs ds
structure CalM (g : Ga) (mg : Str → Option Value) (base : Heap) (lv : Nat) (x : Str) (ps : List Str) (dvs : List V) (sp : Sp) : Prop where
  ex : ∃ f fd ds, Mk g.K (g.c x) f ∧ FnOk g.P g.w g.K mg base (L2.CX g.P g.w) lv f fd ps sp ∧ mg x = some (.ref (g.c x)) ∧ Binds g.K fd ps ds ∧ Vals dvs ds
structure CalN (g : Ga) (mg : Str → Option Value) (base : Heap) (lv : Nat) (C m : Str) (ps : List Str) (dvs : List V) (sp : Sp) : Prop where
  ex : ∃ f fd ds, Cls g.K (g.c C) ∧ Meth g.K (g.c C) m f ∧ FnOk g.P g.w g.K mg base (L2.CX g.P g.w) lv f fd ps sp ∧ Binds g.K fd ps ds ∧ Vals dvs ds
section
variable {X : Cx} {lv : Nat} {x : Str} {ps : List Str} {dvs : List V} {sp : Sp} {p pos apos : Pos} {e o : Expr} {es : List Expr} {t : TA} {ta : TE} {C m : Str}
abbrev gX (X : Cx) : Ga := ⟨X.K, X.prog, X.w⟩
theorem pe_calE {E : XK} (c : Cal (gX X) X.mg X.base lv x ps dvs sp) (hr : Room lv X.A) (hg : Gl X x) (hx : Passes (L2.CX X.prog X.w) X E) (ha : PA X (e :: es) t) (hd : (x == ("__debug__" : Str)) = false := by decide)
    (he : starEach (e :: es) X.env = (false, eval e X.env) :: starEach es X.env := by rfl) (hpl : (backTo pos (starEach es X.env)).any (·.1) = false := by rfl) :
    PE X (.Call (.Name x p) (e :: es) [] pos) (tCall sp dvs E t) := by
  obtain ⟨f, fd, ds, F, hm, hk, hb, hv⟩ := c.ex
  exact pe_call F hr hg hm hk hb hv hx ha hd he hpl
theorem pe_cal (c : Cal (gX X) X.mg X.base lv x ps dvs sp) (hr : Room lv X.A) (hg : Gl X x) (ha : PA X (e :: es) t) (hd : (x == ("__debug__" : Str)) = false := by decide)
    (he : starEach (e :: es) X.env = (false, eval e X.env) :: starEach es X.env := by rfl) (hpl : (backTo pos (starEach es X.env)).any (·.1) = false := by rfl) :
    PE X (.Call (.Name x p) (e :: es) [] pos) (tCall sp dvs E0 t) := pe_calE c hr hg passL ha hd he hpl
theorem pe_mkE {E : XK} (c : CalM (gX X) X.mg X.base lv x ps dvs sp) (hr : Room (lv + 1) X.A) (hg : Gl X x) (hx : Passes (L2.CX X.prog X.w) X E) (ha : PA X (e :: es) t) (hd : (x == ("__debug__" : Str)) = false := by decide)
    (he : starEach (e :: es) X.env = (false, eval e X.env) :: starEach es X.env := by rfl) (hpl : (backTo pos (starEach es X.env)).any (·.1) = false := by rfl) :
    PE X (.Call (.Name x p) (e :: es) [] pos) (tMake ((gX X).c x) sp dvs E t) := by
  obtain ⟨f, fd, ds, M, F, hm, hb, hv⟩ := c.ex
  exact pe_make M F hr hg hm hb hv hx ha hd he hpl
theorem pe_mk (c : CalM (gX X) X.mg X.base lv x ps dvs sp) (hr : Room (lv + 1) X.A) (hg : Gl X x) (ha : PA X (e :: es) t) (hd : (x == ("__debug__" : Str)) = false := by decide)
    (he : starEach (e :: es) X.env = (false, eval e X.env) :: starEach es X.env := by rfl) (hpl : (backTo pos (starEach es X.env)).any (·.1) = false := by rfl) :
    PE X (.Call (.Name x p) (e :: es) [] pos) (tMake ((gX X).c x) sp dvs E0 t) := pe_mkE c hr hg passL ha hd he hpl
theorem pe_mk0 (c : CalM (gX X) X.mg X.base lv x ps dvs sp) (hr : Room (lv + 1) X.A) (hg : Gl X x) (hd : (x == ("__debug__" : Str)) = false := by decide) :
    PE X (.Call (.Name x p) [] [] pos) (tMake ((gX X).c x) sp dvs E0 tNil) := by
  obtain ⟨f, fd, ds, M, F, hm, hb, hv⟩ := c.ex
  exact pe_make0 M F hr hg hm hb hv passL hd
theorem pe_meE {E : XK} {pl : Sem Bool} (c : CalN (gX X) X.mg X.base lv C m ps dvs sp) (ho : PE X o ta) (hr : Room lv X.A) (hx : Passes (L2.CX X.prog X.w) X E) (ha : PA X (e :: es) t)
    (he : starEach (e :: es) X.env = (false, eval e X.env) :: starEach es X.env := by rfl) (hpl : (backTo pos (starEach es X.env)).any (·.1) = false := by rfl)
    (hs : eval (.Call (.Attribute o m apos) (e :: es) [] pos) X.env = (do
      let ov ← eval o X.env
      standAt apos.atName
      let (f, first) ← holding [ov] (getMethod ov m pl)
      callWith pos f first (backTo pos (starEach (e :: es) X.env)) (backToKw pos (keywordEach [] X.env))) := by rfl) :
    PE X (.Call (.Attribute o m apos) (e :: es) [] pos) (tMeth ((gX X).c C) m sp dvs E ta t) := by
  obtain ⟨f, fd, ds, cl, M, F, hb, hv⟩ := c.ex
  exact pe_meth ho cl M F hr hb hv hx ha he hpl hs
theorem pe_me {pl : Sem Bool} (c : CalN (gX X) X.mg X.base lv C m ps dvs sp) (ho : PE X o ta) (hr : Room lv X.A) (ha : PA X (e :: es) t)
    (he : starEach (e :: es) X.env = (false, eval e X.env) :: starEach es X.env := by rfl) (hpl : (backTo pos (starEach es X.env)).any (·.1) = false := by rfl)
    (hs : eval (.Call (.Attribute o m apos) (e :: es) [] pos) X.env = (do
      let ov ← eval o X.env
      standAt apos.atName
      let (f, first) ← holding [ov] (getMethod ov m pl)
      callWith pos f first (backTo pos (starEach (e :: es) X.env)) (backToKw pos (keywordEach [] X.env))) := by rfl) :
    PE X (.Call (.Attribute o m apos) (e :: es) [] pos) (tMeth ((gX X).c C) m sp dvs E0 ta t) := pe_meE c ho hr passL ha he hpl hs
theorem pe_me0 {pl : Sem Bool} (c : CalN (gX X) X.mg X.base lv C m ps dvs sp) (ho : PE X o ta) (hr : Room lv X.A)
    (hs : eval (.Call (.Attribute o m apos) [] [] pos) X.env = (do
      let ov ← eval o X.env
      standAt apos.atName
      let (f, first) ← holding [ov] (getMethod ov m pl)
      callWith pos f first (backTo pos (starEach [] X.env)) (backToKw pos (keywordEach [] X.env))) := by rfl) :
    PE X (.Call (.Attribute o m apos) [] [] pos) (tMeth ((gX X).c C) m sp dvs E0 ta tNil) := by
  obtain ⟨f, fd, ds, cl, M, F, hb, hv⟩ := c.ex
  exact pe_meth0 ho cl M F hr hb hv passL hs
end
/-! ### heaps that change at some places -/
/-- all but what stands at ps is as it was -/
def Ch (ps : List Addr) (H H' : Hp) : Prop := ∀ b o, H b = some o → b ∉ ps → H' b = some o
theorem Ch.refl {ps : List Addr} (H : Hp) : Ch ps H H := fun _ _ h _ => h
theorem Ch.same {ps : List Addr} {H H' : Hp} (h : Same H H') : Ch ps H H' := fun b o e _ => h b o e
theorem Ch.to_same {H H' : Hp} (h : Ch [] H H') : Same H H' := fun b o e => h b o e (by simp)
theorem Ch.mono {ps qs : List Addr} {H H' : Hp} (h : Ch ps H H') (k : ∀ b ∈ ps, b ∈ qs) : Ch qs H H' := fun b o e n => h b o e fun m => n (k b m)
theorem Ch.trans {ps : List Addr} {H H1 H2 : Hp} (a : Ch ps H H1) (b : Ch ps H1 H2) : Ch ps H H2 := fun c o h n => b c o (a c o h n) n
theorem Ch.new {ps : List Addr} {H H' : Hp} {p : Addr} {o : HO} (h : Ch ps H H') (n : H' p = none) : Ch ps H (upd H' p o) := fun b u e m => by
  rw [upd_ne (ne_of_none (h b u e m) n)]
  exact h b u e m
/-- a place that was not tracked at H is written -/
theorem Ch.own {ps : List Addr} {H H' : Hp} {p : Addr} {o : HO} (h : Ch ps H H') (n : H p = none) : Ch ps H (upd H' p o) := fun b u e m => by
  rw [upd_ne (ne_of_none e n)]
  exact h b u e m
theorem Ch.at {ps : List Addr} {H H' : Hp} {p : Addr} {o : HO} (h : Ch ps H H') (n : p ∈ ps) : Ch ps H (upd H' p o) := fun b u e m => by
  have hb : b ≠ p := fun z => m (by rw [z]; exact n)
  rw [upd_ne hb]
  exact h b u e m
theorem Ch.free {ps : List Addr} {H H' : Hp} (h : Ch ps H H') {p : Addr} (n : H' p = none) (m : p ∉ ps) : H p = none := by
  cases q : H p with
  | none => rfl
  | some o => rw [h p o q m] at n; cases n
theorem Same.new {H : Hp} {p : Addr} {o : HO} (n : H p = none) : Same H (upd H p o) := fun b u e => by
  rw [upd_ne (ne_of_none e n)]; exact e
theorem Same.own {H H' : Hp} {p : Addr} {o : HO} (h : Same H H') (n : H p = none) : Same H (upd H' p o) := fun b u e => by
  rw [upd_ne (ne_of_none e n)]; exact h b u e
theorem Same.tup {K : PySem.W.Frag} {H H' : Hp} {a : Addr} {xs : List V} (e : Same H H') (h : SqT K H a xs) : SqT K H' a xs := by
  rcases h with (h | ⟨o, h⟩) | h
  · exact .inl (.inl (e _ _ h))
  · exact .inl (.inr ⟨o, e _ _ h⟩)
  · exact .inr h
end Sd
namespace Sd
open PySem PySem.Spec PyProof.Rows L2
/-! ### _law_cell, _law_pool, _law_draw -/
def cellV (ns : List Int) (k : Nat) : Int := if h : k < ns.length then ns[k] else 1009 * (k : Int) + 5
def sp_law_cell (g : Ga) : Sp := fun vs H Q _ => ∃ (a : Addr) (ns : List Int) (k : Nat), vs = [.ref a, .int k] ∧ SqL g.K H a (ns.map V.int) ∧ k ≤ 1000 ∧ Q (.int (cellV ns k)) H
def PoolO (o : HO) : Prop := ∃ a r n : Int, o = .lst [.int a, .int r, .int n] ∧ 0 ≤ a ∧ a < 2147483629 ∧ 0 ≤ r
def sp_law_pool (g : Ga) : Sp := fun vs H Q _ => ∃ c : Int, vs = [.int c] ∧ ∀ p o, PoolO o → H p = none → Q (.ref p) (upd H p o)
def sp_law_draw (g : Ga) : Sp := fun vs H Q _ => ∃ (p : Addr) (o : HO) (m : Int), vs = [.ref p, .int m] ∧ H p = some o ∧ PoolO o ∧ 0 < m ∧ m ≤ 26 ^ 12 ∧ ∀ d o', 0 ≤ d → d < m → PoolO o' → Q (.int d) (upd H p o')
def t_law_cell (g : Ga) : TS := (tSeq (tIfS (tTest (tOp rLt (tVar 1) (tCB (rLenS g.K) (tCons (tVar 0) tNil)))) (tRet (tOp (rIxL g.K) (tVar 0) (tVar 1))) tNext) (tRet (tOp rAdd (tOp rMul (tC (.int 1009)) (tVar 1)) (tC (.int 5)))))
def t_law_pool (g : Ga) : TS := (tSeq (tAsg (tC (.int 0)) (gName 1)) (tSeq (tIfS (tTest (tOp rGe (tVar 0) (tOp rPow (tC (.int 10)) (tC (.int 18))))) (tAsg (tVar 0) (gName 1)) tNext) (tRet (tLst (tCons (tOp rMod (tCB rInt1 (tCons (tVar 0) tNil)) (tC (.int 2147483629))) (tCons (tVar 1) (tCons (tC (.int 0)) tNil)))))))
def t_law_draw (g : Ga) : TS := (tSeq (tAsg (tOp rAdd (tOp (rIxL g.K) (tVar 0) (tC (.int 2))) (tC (.int 1))) (gSub (tVar 0) (tC (.int 2)) rSetL)) (tSeq (tIfS (tTest (tOp rGt (tOp (rIxL g.K) (tVar 0) (tC (.int 1))) (tC (.int 0)))) (tSeq (tAsg (tOp rMod (tCB rInt1 (tCons (tOp (rIxL g.K) (tVar 0) (tC (.int 1))) tNil)) (tVar 1)) (gName 2)) (tSeq (tAsg (tOp rDiv (tOp (rIxL g.K) (tVar 0) (tC (.int 1))) (tVar 1)) (gSub (tVar 0) (tC (.int 1)) rSetL)) (tRet (tVar 2)))) tNext) (tSeq (tAsg (tOp rMod (tCB rInt1 (tCons (tOp rMul (tOp rAdd (tOp rAdd (tOp (rIxL g.K) (tVar 0) (tC (.int 0))) (tOp rMul (tC (.int 7919)) (tOp (rIxL g.K) (tVar 0) (tC (.int 2))))) (tC (.int 1))) (tC (.int 48271))) tNil)) (tC (.int 2147483647))) (gName 3)) (tSeq (tAsg (tOp rMod (tCB rInt1 (tCons (tOp rMul (tVar 3) (tOp rAdd (tOp rDiv (tVar 3) (tC (.int 1009))) (tC (.int 69621)))) tNil)) (tC (.int 2147483647))) (gName 3)) (tSeq (tAsg (tOp rMod (tCB rInt1 (tCons (tOp rMul (tVar 3) (tOp rAdd (tOp rDiv (tVar 3) (tC (.int 2003))) (tC (.int 40692)))) tNil)) (tC (.int 2147483399))) (gName 3)) (tRet (tOp rMod (tCB rInt1 (tCons (tOp rDiv (tVar 3) (tC (.int 16))) tNil)) (tVar 1))))))))
abbrev endsQ (Q : VK) : Ends := { nx := fun _ H' => Q .non H', rt := Q }
theorem pure_law_cell {g : Ga} {vs : List V} {H : Hp} {Q : VK} {E : XK} (h : sp_law_cell g vs H Q E) : t_law_cell g (endsQ Q) (start ["_law_script", "_law_k"] vs) H := by
  obtain ⟨a, ns, k, rfl, hS, hk, q⟩ := h
  refine ⟨_, rfl, _, rfl, a, _, rfl, .inl hS, _, _, rfl, rfl, _, rfl, ?_⟩
  have e : ((ns.map V.int).length : Int) = (ns.length : Int) := by rw [List.length_map]
  refine ite2 (fun c => ?_) (fun c => ?_)
  · have c1 := of_decide_eq_true c
    have c2 : k < ns.length := by omega
    refine ⟨_, rfl, _, rfl, a, _, _, _, rfl, rfl, hS, atI_nat (v := .int ns[k]) ?_, ?_⟩
    · rw [List.getElem?_map, List.getElem?_eq_getElem c2]; rfl
    · unfold cellV at q; rw [dif_pos c2] at q; exact q
  · have c2 : ¬ k < ns.length := fun z => c (decide_eq_true (by omega))
    refine ⟨_, rfl, _, _, rfl, rfl, .inl ⟨by decide, by decide⟩, _, _, rfl, rfl, ?_⟩
    unfold cellV at q; rw [dif_neg c2] at q; exact q
theorem pure_law_pool {g : Ga} {vs : List V} {H : Hp} {Q : VK} {E : XK} (h : sp_law_pool g vs H Q E) : t_law_pool g (endsQ Q) (start ["_law_cell_here", "_law_rest"] vs) H := by
  obtain ⟨c, rfl, q⟩ := h
  have fin : ∀ r : Int, 0 ≤ r → ∀ p, H p = none → Q (.ref p) (upd H p (.lst [.int (c % 2147483629), .int r, .int 0])) := fun r hr p hp => q p _ ⟨_, r, 0, rfl, Int.emod_nonneg _ (by decide), Int.emod_lt_of_pos _ (by decide), hr⟩ hp
  refine ⟨_, rfl, _, _, rfl, rfl, ⟨by decide, by decide, by decide⟩, _, _, rfl, rfl, _, rfl, ?_⟩
  refine ite2 (fun d => ?_) (fun d => ?_)
  · have d1 := of_decide_eq_true d
    refine ⟨_, rfl, ?_⟩
    refine ⟨_, rfl, .inl ⟨_, rfl, _, _, rfl, rfl, (by decide : (0 : Int) < 2147483629), _, rfl, (by show 3 ≤ sizeLine; decide), fun p hp => ?_⟩⟩
    exact fin c (by have : (0 : Int) ≤ 10 ^ (18 : Int).toNat := by decide
                    omega) p hp
  · refine ⟨_, rfl, .inl ⟨_, rfl, _, _, rfl, rfl, (by decide : (0 : Int) < 2147483629), _, rfl, (by show 3 ≤ sizeLine; decide), fun p hp => ?_⟩⟩
    exact fin 0 (by decide) p hp
theorem bd_mul {a b m : Int} (h0 : 0 ≤ a) (h1 : a < m) (hb : m ≤ 2 ^ 64) : CMul a b := .inl ⟨by omega, by omega⟩
theorem div_wide {i m : Int} (h0 : 0 < m) (h1 : m ≤ 26 ^ 12) : CDivW i m := by
  refine wide_div (b := 64) h0 ?_ (by decide) (by decide)
  have : (26 : Int) ^ 12 < 2 ^ 64 := by decide
  omega
theorem pure_law_draw {g : Ga} {vs : List V} {H : Hp} {Q : VK} {E : XK} (h : sp_law_draw g vs H Q E) : t_law_draw g (endsQ Q) (start ["_law_pool_here", "_law_many", "_law_digit", "_law_number"] vs) H := by
  obtain ⟨p, o, m, rfl, hp, ⟨a, r, n, rfl, ha0, ha1, hr⟩, hm0, hm1, q⟩ := h
  -- pool[2] = pool[2] + 1
  refine ⟨_, rfl, p, _, _, .int n, rfl, rfl, SqL.of hp, rfl, _, _, rfl, rfl, _, rfl, p, _, 2, 2, rfl, rfl, hp, rfl, ?_⟩
  have hp1 : (upd H p (.lst [.int a, .int r, .int (n + 1)])) p = some (.lst [.int a, .int r, .int (n + 1)]) := upd_same
  refine ⟨_, rfl, p, _, _, .int r, rfl, rfl, SqL.of hp1, rfl, _, _, rfl, rfl, _, rfl, ?_⟩
  refine ite2 (fun c => ?_) (fun c => ?_)
  · have c1 : 0 < r := of_decide_eq_true c
    refine ⟨_, rfl, p, _, _, .int r, rfl, rfl, SqL.of hp1, rfl, .inl ⟨_, rfl, _, rfl, _, _, rfl, rfl, hm0, ?_⟩⟩
    refine ⟨_, rfl, p, _, _, .int r, rfl, rfl, SqL.of hp1, rfl, _, rfl, _, _, rfl, rfl, div_wide hm0 hm1, _, rfl, p, _, 1, 1, rfl, rfl, hp1, rfl, _, rfl, ?_⟩
    have e : upd (upd H p (.lst [.int a, .int r, .int (n + 1)])) p (.lst [.int a, .int (r / m), .int (n + 1)]) = upd H p (.lst [.int a, .int (r / m), .int (n + 1)]) := upd_upd
    show Q (.int (r % m)) (upd (upd H p (.lst [.int a, .int r, .int (n + 1)])) p (.lst [.int a, .int (r / m), .int (n + 1)]))
    rw [e]
    exact q _ _ (Int.emod_nonneg _ (by omega)) (Int.emod_lt_of_pos _ hm0) ⟨a, r / m, n + 1, rfl, ha0, ha1, Int.ediv_nonneg hr (by omega)⟩
  · have P1 : (0 : Int) < 2147483647 := by decide
    have P2 : (0 : Int) < 2147483399 := by decide
    refine ⟨_, rfl, p, _, _, .int a, rfl, rfl, SqL.of hp1, rfl, _, rfl, p, _, _, .int (n + 1), rfl, rfl, SqL.of hp1, rfl, _, _, rfl, rfl, .inl ⟨by decide, by decide⟩, _, _, rfl, rfl, _, _, rfl, rfl, _, _, rfl, rfl, .inr ⟨by decide, by decide⟩, .inl ⟨_, rfl, _, _, rfl, rfl, P1, ?_⟩⟩
    refine ⟨_, rfl, _, rfl, _, _, rfl, rfl, ⟨by decide, by decide⟩, _, _, rfl, rfl, _, _, rfl, rfl, bd_mul (m := 2147483647) (Int.emod_nonneg _ (by decide)) (Int.emod_lt_of_pos _ P1) (by decide), .inl ⟨_, rfl, _, _, rfl, rfl, P1, ?_⟩⟩
    refine ⟨_, rfl, _, rfl, _, _, rfl, rfl, ⟨by decide, by decide⟩, _, _, rfl, rfl, _, _, rfl, rfl, bd_mul (m := 2147483647) (Int.emod_nonneg _ (by decide)) (Int.emod_lt_of_pos _ P1) (by decide), .inl ⟨_, rfl, _, _, rfl, rfl, P2, ?_⟩⟩
    refine ⟨_, rfl, _, _, rfl, rfl, ⟨by decide, by decide⟩, .inl ⟨_, rfl, _, rfl, _, _, rfl, rfl, hm0, ?_⟩⟩
    exact q _ _ (Int.emod_nonneg _ (by omega)) (Int.emod_lt_of_pos _ hm0) ⟨a, r, n + 1, rfl, ha0, ha1, hr⟩
end Sd
namespace Sd
open PySem PySem.Spec PyProof.Rows L2
/-! ### _law_name: a number's letters -/
def nm (left : Nat) (acc : List Nat) : List Nat := if h : left = 0 then acc else nm ((left - 1) / 26) ((97 + (left - 1) % 26) :: acc)
termination_by left
decreasing_by
  have := Nat.div_le_self (left - 1) 26
  omega
theorem nm_zero (acc : List Nat) : nm 0 acc = acc := by rw [nm]; simp
theorem nm_pos {left : Nat} (h : left ≠ 0) (acc : List Nat) : nm left acc = nm ((left - 1) / 26) ((97 + (left - 1) % 26) :: acc) := by rw [nm, dif_neg h]
theorem nm_app : ∀ (left : Nat) (acc : List Nat), nm left acc = nm left [] ++ acc := by
  intro left
  induction left using Nat.strongRecOn with
  | ind left ih =>
    intro acc
    by_cases h : left = 0
    · subst h; rw [nm_zero, nm_zero]; rfl
    · have lt : (left - 1) / 26 < left := by
        have := Nat.div_le_self (left - 1) 26
        omega
      rw [nm_pos h, nm_pos h, ih _ lt, ih _ lt [_], List.append_assoc]; rfl
theorem nm_len : ∀ (k left : Nat), left < 26 ^ k → (nm left []).length ≤ k
  | 0, left, h => by
    have e : left = 0 := by simpa using h
    subst e; rw [nm_zero]; exact Nat.le_refl _
  | k + 1, left, h => by
    by_cases z : left = 0
    · subst z; rw [nm_zero]; exact Nat.zero_le _
    · rw [nm_pos z, nm_app, List.length_append]
      have : (left - 1) / 26 < 26 ^ k := by
        rw [Nat.pow_succ] at h
        exact Nat.div_lt_of_lt_mul (by omega)
      have := nm_len k _ this
      simp only [List.length_cons, List.length_nil]
      omega
theorem nm_len12 {left : Nat} (h : left ≤ 26 ^ 12) : (nm left []).length ≤ 12 := by
  by_cases z : left = 0
  · subst z; rw [nm_zero]; exact Nat.zero_le _
  · rw [nm_pos z, nm_app, List.length_append]
    have : (left - 1) / 26 < 26 ^ 11 := Nat.div_lt_of_lt_mul (by
      have : 26 * 26 ^ 11 = 26 ^ 12 := by decide
      omega)
    have := nm_len 11 _ this
    simp only [List.length_cons, List.length_nil]
    omega
theorem nm_ok : ∀ (left : Nat) (acc : List Nat), (∀ c ∈ acc, 97 ≤ c ∧ c < 123) → ∀ c ∈ nm left acc, 97 ≤ c ∧ c < 123 := by
  intro left
  induction left using Nat.strongRecOn with
  | ind left ih =>
    intro acc ha
    by_cases h : left = 0
    · subst h; rw [nm_zero]; exact ha
    · have lt : (left - 1) / 26 < left := by
        have := Nat.div_le_self (left - 1) 26
        omega
      rw [nm_pos h]
      refine ih _ lt _ fun c hc => ?_
      rcases List.mem_cons.mp hc with e | hc
      · have := Nat.mod_lt (left - 1) (by decide : 0 < 26)
        omega
      · exact ha c hc
theorem nm_ne {left : Nat} (h : left ≠ 0) : nm left [] ≠ [] := by
  rw [nm_pos h, nm_app]; simp
theorem nm_acc (left : Nat) (acc : List Nat) : acc.length ≤ (nm left acc).length := by
  rw [nm_app, List.length_append]; omega
/-- a name: 1 to 12 letters from a to z -/
def IsName (z : Str) : Prop := z.length ≠ 0 ∧ z.length ≤ 12 ∧ ∀ c ∈ tl z, 97 ≤ c ∧ c < 123
def nameOf (n : Nat) : Str := ⟨(nm (n + 1) []).toArray⟩
theorem len_tl (z : Str) : z.length = (tl z).length := by simp [Str.length, tl]
theorem tl_nameOf (n : Nat) : tl (nameOf n) = nm (n + 1) [] := by simp [tl, nameOf]
theorem nameOf_ok {n : Nat} (h : n < 26 ^ 12) : IsName (nameOf n) := by
  refine ⟨?_, ?_, ?_⟩
  · rw [len_tl, tl_nameOf]
    intro e
    exact nm_ne (Nat.succ_ne_zero n) (List.length_eq_zero_iff.mp e)
  · rw [len_tl, tl_nameOf]
    exact nm_len12 h
  · rw [tl_nameOf]
    exact nm_ok _ _ fun c hc => by cases hc
def sp_law_name (g : Ga) : Sp := fun vs H Q _ => ∃ n : Nat, vs = [.int n] ∧ n < 26 ^ 12 ∧ Q (.str (nameOf n)) H
abbrev abc : Str := "abcdefghijklmnopqrstuvwxyz"
theorem abc_tl : tl abc = (List.range 26).map (97 + ·) := by decide +kernel
theorem abc_len : abc.length = 26 := by decide +kernel
theorem abc_at {i : Nat} (h : i < 26) : atI (tl abc) (i : Int) = some (97 + i) := by
  rw [abc_tl]
  refine atI_nat ?_
  rw [List.getElem?_map, List.getElem?_range h]; rfl
theorem tl_cons (c : Nat) (z : Str) : tl ((⟨#[c]⟩ : Str) ++ z) = c :: tl z := by
  have h := TL.tl_append (⟨#[c]⟩ : Str) z
  simpa [tl, TL.tl] using h
def t_law_name (g : Ga) : TS := (tSeq (tAsg (tC (.str "")) (gName 1)) (tSeq (tAsg (tOp rAdd (tVar 0) (tC (.int 1))) (gName 2)) (tSeq (tWhile (tTest (tOp rGt (tVar 2) (tC (.int 0)))) (tSeq (tAsg (tOp rSub (tVar 2) (tC (.int 1))) (gName 2)) (tSeq (tAsg (tOp rAddS (tOp rIxS (tC (.str "abcdefghijklmnopqrstuvwxyz")) (tOp rMod (tCB rInt1 (tCons (tVar 2) tNil)) (tC (.int 26)))) (tVar 1)) (gName 1)) (tAsg (tOp rDiv (tVar 2) (tC (.int 26))) (gName 2))))) (tRet (tVar 1)))))
theorem pure_law_name {g : Ga} {vs : List V} {H : Hp} {Q : VK} {E : XK} (h : sp_law_name g vs H Q E) : t_law_name g (endsQ Q) (start ["_law_number", "_law_letters", "_law_left"] vs) H := by
  obtain ⟨n, rfl, hn, q⟩ := h
  refine ⟨_, rfl, _, _, rfl, rfl, ?_⟩
  refine while_by (fun σ H' => H' = H ∧ ∃ (z : Str) (l : Nat), σ = [some (.int n), some (.str z), some (.int l)] ∧ nm l (tl z) = nm (n + 1) []) (fun σ _ => match σ with | [_, _, some (.int l)] => l.toNat | _ => 0)
    ⟨rfl, "", n + 1, rfl, rfl⟩ ?_ ?_
  · rintro σ H' ⟨rfl, z, l, rfl, hz⟩
    refine ⟨_, rfl, _, _, rfl, rfl, _, rfl, ?_⟩
    refine ite2 (fun c => ?_) (fun c => ?_)
    · have c1 : (0 : Int) < (l : Int) := of_decide_eq_true c
      have c2 : l ≠ 0 := by omega
      have e1 : (l : Int) - 1 = ((l - 1 : Nat) : Int) := by omega
      have e2 : ((l - 1 : Nat) : Int) % 26 = (((l - 1) % 26 : Nat) : Int) := by omega
      have e3 : ((l - 1 : Nat) : Int) / 26 = (((l - 1) / 26 : Nat) : Int) := by omega
      have lz : z.length ≤ 12 := by
        rw [len_tl]
        have h1 := nm_acc l (tl z)
        have h2 := nm_len12 (left := n + 1) hn
        rw [hz] at h1
        omega
      refine ⟨_, rfl, _, _, rfl, rfl, ?_⟩
      refine ⟨_, rfl, .inl ⟨_, rfl, _, _, rfl, rfl, (show (0 : Int) < 26 by decide), abc, _, 97 + (l - 1) % 26, rfl, rfl, (by rw [abc_len]; decide), ?_, _, rfl, _, _, rfl, rfl, ?_, ?_⟩⟩
      · rw [e1, e2]
        exact abc_at (Nat.mod_lt _ (by decide))
      · show 1 + z.length ≤ sizeLine
        have : (100 : Nat) ≤ sizeLine := by decide
        omega
      · refine ⟨_, rfl, _, _, rfl, rfl, ⟨by decide, by decide⟩, ?_⟩
        have lt : (l - 1) / 26 < l := by
          have := Nat.div_le_self (l - 1) 26
          omega
        refine ⟨⟨rfl, (⟨#[97 + (l - 1) % 26]⟩ : Str) ++ z, (l - 1) / 26, ?_, ?_⟩, ?_⟩
        · rw [← e3, ← e1]; rfl
        · rw [tl_cons, ← nm_pos c2]; exact hz
        · show Int.toNat (((l : Int) - 1) / 26) < (l : Int).toNat
          rw [e1, e3, Int.toNat_natCast, Int.toNat_natCast]
          exact lt
    · have c2 : l = 0 := by
        have : ¬ (0 : Int) < (l : Int) := fun z => c (decide_eq_true z)
        omega
      subst c2
      rw [nm_zero] at hz
      have e : z = nameOf n := tl_inj (by rw [hz, tl_nameOf])
      subst e
      exact ⟨_, rfl, q⟩
  · intro σ H' Q1 Q2 hQ hc
    obtain ⟨v, hv, i, j, hi, hj, k, hk, qq⟩ := hc
    exact ⟨v, hv, i, j, hi, hj, k, hk, hQ _ _ qq⟩
end Sd
namespace Sd
open PySem PySem.Spec PyProof.Rows L2
/-! ### different numbers have different names -/
def unm (a c : Nat) : Nat := a * 26 + (c - 97) + 1
theorem unm_nm : ∀ (left : Nat) (acc : List Nat), (nm left acc).foldl unm 0 = acc.foldl unm left := by
  intro left
  induction left using Nat.strongRecOn with
  | ind left ih =>
    intro acc
    by_cases h : left = 0
    · subst h; rw [nm_zero]
    · have lt : (left - 1) / 26 < left := by
        have := Nat.div_le_self (left - 1) 26
        omega
      rw [nm_pos h, ih _ lt, List.foldl_cons]
      have e : unm ((left - 1) / 26) (97 + (left - 1) % 26) = left := by
        unfold unm
        have := Nat.div_add_mod (left - 1) 26
        omega
      rw [e]
theorem nameOf_inj {a b : Nat} (h : nameOf a = nameOf b) : a = b := by
  have h1 : nm (a + 1) [] = nm (b + 1) [] := by rw [← tl_nameOf, ← tl_nameOf, h]
  have h2 := unm_nm (a + 1) []
  rw [h1, unm_nm (b + 1) []] at h2
  simp only [List.foldl_nil] at h2
  omega
/-! ### pigeons -/
theorem nodup_le : ∀ (l D : List Nat), l.Nodup → (∀ x ∈ l, x ∈ D) → l.length ≤ D.length
  | [], _, _, _ => Nat.zero_le _
  | a :: l, D, nd, h => by
    have h1 := List.nodup_cons.mp nd
    have ih := nodup_le l (D.erase a) h1.2 fun x hx => (List.mem_erase_of_ne (fun e => h1.1 (by rw [← e]; exact hx))).mpr (h x (List.mem_cons_of_mem _ hx))
    have ha := h a List.mem_cons_self
    have := List.length_erase_of_mem ha
    have := List.length_pos_of_mem ha
    rw [List.length_cons]
    omega
theorem not_all_in {M v : Nat} {L : List Nat} (hM : L.length < M) (h : ∀ j, j ≤ L.length → (v + j) % M ∈ L) : False := by
  have nd : ((List.range (L.length + 1)).map fun j => (v + j) % M).Nodup := by
    rw [List.Nodup, List.pairwise_map]
    refine List.Pairwise.imp_of_mem ?_ List.nodup_range
    intro a b ha hb ne e
    rw [List.mem_range] at ha hb
    apply ne
    have h1 := Nat.div_add_mod (v + a) M
    have h2 := Nat.div_add_mod (v + b) M
    rw [e] at h1
    generalize (v + a) / M = x at h1
    generalize (v + b) / M = y at h2
    rcases Nat.lt_trichotomy x y with c | c | c
    · have : M * (x + 1) ≤ M * y := Nat.mul_le_mul_left M c
      rw [Nat.mul_succ] at this
      omega
    · subst c; omega
    · have : M * (y + 1) ≤ M * x := Nat.mul_le_mul_left M c
      rw [Nat.mul_succ] at this
      omega
  have le := nodup_le _ L nd fun x hx => by
    obtain ⟨j, hj, rfl⟩ := List.mem_map.mp hx
    exact h j (by rw [List.mem_range] at hj; omega)
  rw [List.length_map, List.length_range] at le
  omega
abbrev MM : Nat := 26 ^ 12
def vN (n : Nat) : V := .int (n : Int)
theorem vN_flat (L : List Nat) : (L.map vN).all flatV = true := by
  rw [List.all_map, List.all_eq_true]; intro x _; rfl
theorem inV_nat (v : Nat) : ∀ L : List Nat, inV (vN v) (L.map vN) = decide (v ∈ L)
  | [] => by simp [inV]
  | a :: L => by
    have ih := inV_nat v L
    have e : eqV (vN a) (vN v) = decide (a = v) := by
      unfold vN eqV
      by_cases h : a = v
      · subst h; simp
      · have : ¬ (a : Int) = (v : Int) := by omega
        simp [h, this]
    unfold inV at ih ⊢
    rw [List.map_cons, List.any_cons, e, ih]
    by_cases h : a = v
    · subst h; simp
    · have h2 : ¬ v = a := fun z => h z.symm
      simp [h, h2]
def sp_law_names (g : Ga) : Sp := fun vs H Q _ => ∃ (p : Addr) (o : HO) (m : Nat), vs = [.ref p, .int m] ∧ H p = some o ∧ PoolO o ∧ m ≤ 16 ∧
  ∀ (l : Addr) (zs : List Str) (o' : HO) (H' : Hp), Ch [p] H H' → H' p = some o' → PoolO o' → H l = none → H' l = some (.lst (zs.map V.str)) → zs.length = m → (∀ z ∈ zs, IsName z) → zs.Nodup → Q (.ref l) H'
def t_law_names (g : Ga) : TS := (tSeq (tAsg (tLst tNil) (gName 2)) (tSeq (tFor (iRng1 (tCons (tVar 1) tNil)) (gName 3) (tSeq (tAsg (tCall (sp_law_draw g) [] E0 (tCons (tVar 0) (tCons (tC (.int 26)) tNil))) (gName 4)) (tSeq (tIfS (tTest (tOp rEq (tCall (sp_law_draw g) [] E0 (tCons (tVar 0) (tCons (tC (.int 4)) tNil))) (tC (.int 0)))) (tAsg (tCall (sp_law_draw g) [] E0 (tCons (tVar 0) (tCons (tOp rPow (tC (.int 26)) (tC (.int 12))) tNil))) (gName 4)) tNext) (tSeq (tFor (iRng1 (tCons (tVar 3) tNil)) (gName 5) (tIfS (tTest (tOp (rIn g.K false) (tVar 4) (tVar 2))) (tAsg (tOp rMod (tCB rInt1 (tCons (tOp rAdd (tVar 4) (tC (.int 1))) tNil)) (tOp rPow (tC (.int 26)) (tC (.int 12)))) (gName 4)) tNext)) (tDrop (tBM g.K "list" rApp (tVar 2) (tCons (tVar 4) tNil))))))) (tRet (tLc (iList g.K (tVar 2)) (gName 4) tYes (tCall (sp_law_name g) [] E0 (tCons (tVar 4) tNil)) [4]))))
/-- the number is made different from those before it, and kept -/
def t_names_fix (g : Ga) : TS := (tSeq (tFor (iRng1 (tCons (tVar 3) tNil)) (gName 5) (tIfS (tTest (tOp (rIn g.K false) (tVar 4) (tVar 2))) (tAsg (tOp rMod (tCB rInt1 (tCons (tOp rAdd (tVar 4) (tC (.int 1))) tNil)) (tOp rPow (tC (.int 26)) (tC (.int 12)))) (gName 4)) tNext)) (tDrop (tBM g.K "list" rApp (tVar 2) (tCons (tVar 4) tNil))))
theorem names_fix {g : Ga} {D : Ends} {p l2 : Addr} {m v : Nat} {L : List Nat} {H : Hp} {c : Option V} {kk : Int} (hk : kk = L.length) (nd : L.Nodup) (few : L.length ≤ 16) (hb : ∀ v ∈ L, v < MM) (hv : v < MM) (hl : H l2 = some (.lst (L.map vN)))
    (k : ∀ v' a, v' < MM → v' ∉ L → D.nx [some (.ref p), some (.int m), some (.ref l2), some (.int kk), some (vN v'), a] (upd H l2 (.lst ((L ++ [v']).map vN)))) :
    t_names_fix g D [some (.ref p), some (.int m), some (.ref l2), some (.int kk), some (vN v), c] H := by
  have ek : kk.toNat = L.length := by omega
  refine ⟨_, rfl, _, rfl, by omega, by omega, ?_⟩
  rw [ek]
  refine for_range (n := L.length) (fun i σ H' => H' = H ∧ ∃ (v' : Nat) (a : Option V), σ = [some (.ref p), some (.int m), some (.ref l2), some (.int kk), some (vN v'), a] ∧ v' < MM ∧ (v' ∉ L ∨ (v' = (v + i) % MM ∧ ∀ j, j ≤ i → (v + j) % MM ∈ L)))
    ⟨rfl, v, c, rfl, hv, ?_⟩ ?_ ?_
  · by_cases h : v ∈ L
    · refine .inr ⟨(Nat.mod_eq_of_lt hv).symm, fun j hj => ?_⟩
      obtain rfl : j = 0 := by omega
      rw [Nat.add_zero, Nat.mod_eq_of_lt hv]; exact h
    · exact .inl h
  · rintro i σ H' hi ⟨rfl, v', a, rfl, hv', alt⟩
    refine ⟨_, rfl, _, rfl, l2, L.map vN, rfl, .inl (SqL.of hl), rfl, vN_flat L, _, rfl, ?_⟩
    rw [if_neg Bool.false_ne_true, inV_nat]
    refine ite2 (fun hin => ?_) (fun hin => ?_)
    · have hin := of_decide_eq_true hin
      have e1 : ((v' : Int) + 1) % 26 ^ (12 : Int).toNat = (((v' + 1) % MM : Nat) : Int) := by
        show ((v' : Int) + 1) % 26 ^ 12 = _
        rw [Int.natCast_emod]; rfl
      refine ⟨_, rfl, _, _, rfl, rfl, .inl ⟨_, rfl, _, _, rfl, rfl, ⟨by decide, by decide, by decide⟩, _, _, rfl, rfl, (show (0 : Int) < 26 ^ (12 : Int).toNat by decide), ?_⟩⟩
      refine ⟨rfl, (v' + 1) % MM, some (V.int (0 + (i : Int))), ?_, Nat.mod_lt _ (by decide), ?_⟩
      · show [some (V.ref p), some (V.int m), some (V.ref l2), some (V.int kk), some (V.int (((v' : Int) + 1) % 26 ^ (12 : Int).toNat)), some (V.int (0 + (i : Int)))] = _
        rw [e1]; rfl
      · rcases alt with n | ⟨e, all⟩
        · exact absurd hin n
        · have e2 : (v' + 1) % MM = (v + (i + 1)) % MM := by rw [e, Nat.mod_add_mod]; rfl
          by_cases h : (v' + 1) % MM ∈ L
          · refine .inr ⟨e2, fun j hj => ?_⟩
            by_cases hji : j ≤ i
            · exact all j hji
            · obtain rfl : j = i + 1 := by omega
              rw [← e2]; exact h
          · exact .inl h
    · have hin : v' ∉ L := fun z => hin (decide_eq_true z)
      exact ⟨rfl, v', _, rfl, hv', .inl hin⟩
  · rintro σ H' ⟨rfl, v', a, rfl, hv', alt⟩
    have hn : v' ∉ L := by
      rcases alt with n | ⟨e, all⟩
      · exact n
      · exact (not_all_in (M := MM) (v := v) (Nat.lt_of_le_of_lt few (by decide)) all).elim
    have k' := k v' a hv' hn
    rw [List.map_append] at k'
    refine ⟨_, rfl, .inl ⟨rfl, _, SqL.of hl⟩, _, rfl, l2, _, _, rfl, rfl, hl, ?_, k'⟩
    rw [List.length_map]
    exact small1000 (by omega)
theorem pure_law_names {g : Ga} {vs : List V} {H : Hp} {Q : VK} {E : XK} (h : sp_law_names g vs H Q E) : t_law_names g (endsQ Q) (start ["_law_pool_here", "_law_many", "_law_numbers", "_law_k", "_law_number", "_law_again"] vs) H := by
  obtain ⟨p, o, m, rfl, hp, po, hm, q⟩ := h
  refine ⟨by show 0 ≤ sizeLine; decide, fun l2 hl2 => ?_⟩
  have np2 : p ≠ l2 := ne_of_none hp hl2
  refine ⟨_, rfl, _, rfl, by omega, by omega, for_range (n := m) (fun i σ H' => ∃ (L : List Nat) (o' : HO) (a b c : Option V), σ = [some (.ref p), some (.int m), some (.ref l2), a, b, c] ∧ L.length = i ∧ L.Nodup ∧ (∀ v ∈ L, v < MM) ∧
    H' l2 = some (.lst (L.map vN)) ∧ H' p = some o' ∧ PoolO o' ∧ Ch [p] H H') ⟨[], o, none, none, none, rfl, rfl, List.nodup_nil, (fun v hv => by cases hv), upd_same, (by rw [upd_ne np2]; exact hp), po, (Ch.refl H).own hl2⟩ ?_ ?_⟩
  · rintro i σ H1 hi ⟨L, o1, a, b, c, rfl, rfl, nd, hb, hl, hp1, po1, ch⟩
    have fin : ∀ (v : Nat) (o3 : HO) (H2 : Hp) (c : Option V) (D : Ends), v < MM → H2 l2 = some (.lst (L.map vN)) → H2 p = some o3 → PoolO o3 → Ch [p] H H2 →
        (∀ σ H', (∃ (L' : List Nat) (o' : HO) (a b c : Option V), σ = [some (.ref p), some (.int m), some (.ref l2), a, b, c] ∧ L'.length = L.length + 1 ∧ L'.Nodup ∧ (∀ v ∈ L', v < MM) ∧ H' l2 = some (.lst (L'.map vN)) ∧ H' p = some o' ∧ PoolO o' ∧ Ch [p] H H') → D.nx σ H') →
        t_names_fix g D [some (.ref p), some (.int m), some (.ref l2), some (.int (0 + (L.length : Int))), some (vN v), c] H2 := fun v o3 H2 c D hv h1 h2 h3 h4 hD =>
      names_fix (by omega) nd (by omega) hb hv h1 fun v' a hv' hn => hD _ _ ⟨L ++ [v'], o3, _, _, _, rfl, by simp, (by
        rw [List.nodup_append]
        exact ⟨nd, by simp, fun x hx y hy e => hn (by rw [List.mem_singleton] at hy; rw [← hy, ← e]; exact hx)⟩), (fun x hx => by
          rcases List.mem_append.mp hx with z | z
          · exact hb x z
          · rw [List.mem_singleton] at z; rw [z]; exact hv'), upd_same, (by rw [upd_ne np2]; exact h2), h3, h4.own hl2⟩
    refine ⟨_, rfl, p, o1, 26, rfl, hp1, po1, by decide, by decide, fun d o2 d0 d1 po2 => ?_⟩
    refine ⟨_, rfl, p, o2, 4, rfl, upd_same, po2, by decide, by decide, fun d' o3 d0' d1' po3 => ?_⟩
    refine ⟨rfl, _, rfl, ?_⟩
    rw [upd_upd]
    refine ite2 (fun c => ?_) (fun c => ?_)
    · refine ⟨_, rfl, _, _, rfl, rfl, ⟨by decide, by decide, by decide⟩, p, o3, _, rfl, upd_same, po3, by decide, by decide, fun d2 o4 e0 e1 po4 => ?_⟩
      rw [upd_upd]
      obtain ⟨v, rfl⟩ := Int.eq_ofNat_of_zero_le e0
      refine fin v o4 _ _ _ ?_ (by rw [upd_ne np2.symm]; exact hl) upd_same po4 (ch.at (by simp)) ?_
      · have e1' : (v : Int) < 26 ^ 12 := e1
        have : ((MM : Nat) : Int) = 26 ^ 12 := by decide
        omega
      · exact fun σ H' z => z
    · obtain ⟨v, rfl⟩ := Int.eq_ofNat_of_zero_le d0
      refine fin v o3 _ _ _ ?_ (by rw [upd_ne np2.symm]; exact hl) upd_same po3 (ch.at (by simp)) ?_
      · have : 26 < MM := by decide
        omega
      · exact fun σ H' z => z
  · rintro σ H1 ⟨L, o1, a, b, c, rfl, hL, nd, hb, hl, hp1, po1, ch⟩
    refine ⟨_, rfl, l2, rfl, ⟨_, SqL.of hl⟩, fun D hD => ?_⟩
    have nl : l2 ≠ D := ne_of_none hl hD
    have np : p ≠ D := ne_of_none hp1 hD
    have hDH : H D = none := ch.free hD (by simpa using np.symm)
    refine lc_list (K := g.K) (a := l2) (xs := L.map vN) (fun i H' => H' D = some (.lst (((L.take i).map nameOf).map V.str)) ∧ H' l2 = some (.lst (L.map vN)) ∧ H' p = some o1 ∧ Ch [p] H H') ⟨upd_same, (by rw [upd_ne nl]; exact hl), (by rw [upd_ne np]; exact hp1), ch.own hDH⟩
      (fun i H' _ z => SqL.of z.2.1) ?_ ?_
    · rintro i x H' hx ⟨h1, h2, h3, h4⟩
      obtain ⟨v, hv, rfl⟩ : ∃ v, L[i]? = some v ∧ x = vN v := by
        rw [List.getElem?_map] at hx
        cases e : L[i]? with
        | none => rw [e] at hx; cases hx
        | some v => rw [e] at hx; exact ⟨v, rfl, (Option.some.inj hx).symm⟩
      refine ⟨rfl, ?_⟩
      refine ⟨_, rfl, v, rfl, hb v (List.mem_of_getElem? hv), _, h1, ?_, ?_⟩
      · rw [List.length_map, List.length_map, List.length_take]
        exact small1000 (by omega)
      · refine ⟨?_, (by rw [upd_ne nl]; exact h2), (by rw [upd_ne np]; exact h3), h4.own hDH⟩
        rw [upd_same, List.take_add_one, hv]
        simp
    · rintro H' ⟨h1, h2, h3, h4⟩
      rw [List.length_map, List.take_length] at h1
      refine q D _ o1 H' h4 h3 po1 hDH h1 (by rw [List.length_map]; exact hL) (fun z hz => ?_) ?_
      · obtain ⟨v, hv, rfl⟩ := List.mem_map.mp hz
        exact nameOf_ok (hb v hv)
      · rw [List.Nodup, List.pairwise_map]
        exact List.Pairwise.imp (fun n e => n (nameOf_inj e)) nd
end Sd
namespace Sd
open PySem PySem.Spec PyProof.Rows L2
/-! ### kinds of values -/
theorem sq_ty {K : PySem.W.Frag} {H : Hp} {a : Addr} {xs : List V} (h : SqL K H a xs) : TyX K H (.ref a) (.type "list") := by
  rcases h with (h | ⟨o, h⟩) | ⟨o, _, _, h, hc, _⟩
  · exact .base (.lst h)
  · exact .base (.frz h)
  · exact .kList h hc
theorem st_ty {K : PySem.W.Frag} {H : Hp} {a : Addr} {xs : List V} (h : SqT K H a xs) : TyX K H (.ref a) (.type "tuple") := by
  rcases h with (h | ⟨o, h⟩) | ⟨o, _, _, h, hc, _⟩
  · exact .base (.tup h)
  · exact .fTuple h
  · exact .kTuple h hc
def tyN : PyData → String
  | .none => "NoneType"
  | .bool _ => "bool"
  | .int _ => "int"
  | .str _ => "str"
  | .list _ => "list"
  | .tuple _ => "tuple"
  | .dict _ => "dict"
theorem dp_ty {K : PySem.W.Frag} {H : Hp} {x : V} {d : PyData} (h : Dp K H x d) : TyX K H x (.type (tyN d)) := by
  cases h with
  | non => exact .base .non
  | bl b => exact .base (.bl b)
  | int i => exact .base (.int i)
  | str z => exact .base (.str z)
  | lst hs _ => exact sq_ty hs
  | tup hs _ => exact st_ty hs
/-- isinstance(x, a built-in class) -/
theorem isi_ty {K : PySem.W.Frag} {H : Hp} {x : V} {t n : String} {b : Bool} {Q : VK} (ty : TyX K H x (.type t)) (h : kitB t n = some b) (q : Q (.bl b) H) : rIsi K [x, .ty n] H Q :=
  ⟨x, .ty n, .type t, .type n, b, rfl, .ty n, ty, kit_ty h, q⟩
mutual
theorem dp_mono {K : PySem.W.Frag} {H H' : Hp} (s : Same H H') : ∀ (d : PyData) (x : V), Dp K H x d → Dp K H' x d
  | .none, _, h => by cases h; exact .non
  | .bool b, _, h => by cases h; exact .bl b
  | .int i, _, h => by cases h; exact .int i
  | .str z, _, h => by cases h; exact .str z
  | .list ds, _, h => by cases h with | lst hs ha => exact .lst (s.seq hs) (dpAll_mono s ds _ ha)
  | .tuple ds, _, h => by cases h with | tup hs ha => exact .tup (Same.tup s hs) (dpAll_mono s ds _ ha)
  | .dict _, _, h => by cases h
theorem dpAll_mono {K : PySem.W.Frag} {H H' : Hp} (s : Same H H') : ∀ (ds : List PyData) (xs : List V), DpAll K H xs ds → DpAll K H' xs ds
  | [], _, h => by cases h; exact .nil
  | d :: ds, _, h => by cases h with | cons a b => exact .cons (dp_mono s d _ a) (dpAll_mono s ds _ b)
end
theorem Dp.keep {K : PySem.W.Frag} {H H' : Hp} {d : PyData} {x : V} (h : Dp K H x d) (s : Same H H') : Dp K H' x d := dp_mono s d x h
theorem dpAll_get {K : PySem.W.Frag} {H : Hp} : ∀ {ds : List PyData} {xs : List V} {i : Nat} {d : PyData}, DpAll K H xs ds → ds[i]? = some d → ∃ x, xs[i]? = some x ∧ Dp K H x d
  | [], _, _, _, _, e => by simp at e
  | _ :: _, _, 0, _, .cons h _, e => by
    simp only [List.getElem?_cons_zero, Option.some.injEq] at e
    subst e; exact ⟨_, rfl, h⟩
  | _ :: _, _, i + 1, _, .cons _ h, e => by
    simp only [List.getElem?_cons_succ] at e
    obtain ⟨x, h1, h2⟩ := dpAll_get h e
    exact ⟨x, by simpa using h1, h2⟩
theorem dpAll_len {K : PySem.W.Frag} {H : Hp} : ∀ {ds : List PyData} {xs : List V}, DpAll K H xs ds → xs.length = ds.length
  | [], _, .nil => rfl
  | _ :: _, _, .cons _ h => by rw [List.length_cons, List.length_cons, dpAll_len h]
def seqOf (K : PySem.W.Frag) (H : Hp) (x : V) (xs : List V) : Prop := ∃ a, x = .ref a ∧ (SqL K H a xs ∨ SqT K H a xs)
mutual
def shortD : PyData → Bool
  | .list xs => decide (xs.length < 100000) && shortAll xs
  | .tuple xs => decide (xs.length < 100000) && shortAll xs
  | .dict _ => false
  | .none => true
  | .bool _ => true
  | .int _ => true
  | .str _ => true
def shortAll : List PyData → Bool
  | [] => true
  | x :: xs => shortD x && shortAll xs
end
theorem shortAll_get : ∀ {ds : List PyData} {d : PyData}, shortAll ds = true → d ∈ ds → shortD d = true
  | [], _, _, h => by cases h
  | x :: xs, d, h, hd => by
    unfold shortAll at h
    have h1 := Bool.and_eq_true_iff.mp h
    rcases List.mem_cons.mp hd with e | e
    · rw [e]; exact h1.1
    · exact shortAll_get h1.2 e
def sp_law_same (n : Nat) (g : Ga) : Sp := fun vs H Q _ => ∃ (x y : V) (d : PyData), vs = [x, y] ∧ Dp g.K H x d ∧ Dp g.K H y d ∧ d.depth ≤ n ∧ shortD d = true ∧ Q (.bl true) H
def t_law_same (g : Ga) (sp : Sp) : TS := (tSeq (tIfS (tTest (tOp rIsN (tVar 1) (tC .non))) (tRet (tOp rIsN (tVar 0) (tC .non))) tNext) (tSeq (tIfS (tB (tCB (rIsi g.K) (tCons (tVar 1) (tCons (tC (.ty "bool")) tNil)))) (tRet (tAndV (tCB (rIsi g.K) (tCons (tVar 0) (tCons (tC (.ty "bool")) tNil))) (tOp rEq (tVar 0) (tVar 1)))) tNext) (tSeq (tIfS (tB (tCB (rIsi g.K) (tCons (tVar 1) (tCons (tC (.ty "int")) tNil)))) (tRet (tAndV (tCB (rIsi g.K) (tCons (tVar 0) (tCons (tC (.ty "int")) tNil))) (tAndV (tNotV (tCB (rIsi g.K) (tCons (tVar 0) (tCons (tC (.ty "bool")) tNil)))) (tOp rEq (tVar 0) (tVar 1))))) tNext) (tSeq (tIfS (tB (tCB (rIsi g.K) (tCons (tVar 1) (tCons (tC (.ty "str")) tNil)))) (tRet (tAndV (tCB (rIsi g.K) (tCons (tVar 0) (tCons (tC (.ty "str")) tNil))) (tOp rEq (tVar 0) (tVar 1)))) tNext) (tSeq (tIfS (tAnd (tB (tCB (rIsi g.K) (tCons (tVar 1) (tCons (tC (.ty "list")) tNil)))) (tNot (tB (tCB (rIsi g.K) (tCons (tVar 0) (tCons (tC (.ty "list")) tNil)))))) (tRet (tC (.bl false))) tNext) (tSeq (tIfS (tAnd (tB (tCB (rIsi g.K) (tCons (tVar 1) (tCons (tC (.ty "tuple")) tNil)))) (tNot (tB (tCB (rIsi g.K) (tCons (tVar 0) (tCons (tC (.ty "tuple")) tNil)))))) (tRet (tC (.bl false))) tNext) (tSeq (tIfS (tB (tCB (rIsi g.K) (tCons (tVar 1) (tCons (tC (.ty "dict")) tNil)))) (tRet (tAndV (tCB (rIsi g.K) (tCons (tVar 0) (tCons (tC (.ty "dict")) tNil))) (tOp rEq (tVar 0) (tVar 1)))) tNext) (tSeq (tIfS (tTest (tOp rNe (tCB (rLen g.K) (tCons (tVar 0) tNil)) (tCB (rLen g.K) (tCons (tVar 1) tNil)))) (tRet (tC (.bl false))) tNext) (tSeq (tFor (iRng1 (tCons (tCB (rLen g.K) (tCons (tVar 1) tNil)) tNil)) (gName 2) (tIfS (tNot (tB (tCall sp [] E0 (tCons (tOp (rIx g.K) (tVar 0) (tVar 2)) (tCons (tOp (rIx g.K) (tVar 1) (tVar 2)) tNil))))) (tRet (tC (.bl false))) tNext)) (tRet (tC (.bl true))))))))))))
/-- behind the kinds: two rows of one length, item by item -/
theorem same_rows {g : Ga} {n : Nat} {sp : Sp} (hsp : ∀ vs H Q E, sp_law_same n g vs H Q E → sp vs H Q E) {D : Ends} {x y : V} {xs ys : List V} {ds : List PyData} {H : Hp} (hx : seqOf g.K H x xs) (hy : seqOf g.K H y ys) (ax : DpAll g.K H xs ds) (ay : DpAll g.K H ys ds) (few : ds.length < 2 ^ 62) (sh : shortAll ds = true) (hd : PyData.depthAll ds ≤ n) (q : D.rt (.bl true) H) :
    (tSeq (tIfS (tTest (tOp rNe (tCB (rLen g.K) (tCons (tVar 0) tNil)) (tCB (rLen g.K) (tCons (tVar 1) tNil)))) (tRet (tC (.bl false))) tNext) (tSeq (tFor (iRng1 (tCons (tCB (rLen g.K) (tCons (tVar 1) tNil)) tNil)) (gName 2) (tIfS (tNot (tB (tCall sp [] E0 (tCons (tOp (rIx g.K) (tVar 0) (tVar 2)) (tCons (tOp (rIx g.K) (tVar 1) (tVar 2)) tNil))))) (tRet (tC (.bl false))) tNext)) (tRet (tC (.bl true))))) D [some x, some y, none] H := by
  obtain ⟨a, rfl, ha⟩ := hx
  obtain ⟨b, rfl, hb⟩ := hy
  have lx := dpAll_len ax
  have ly := dpAll_len ay
  have la : LenV g.K (.ref a) H ds.length := by
    rcases ha with h | h
    · exact .inl ⟨xs, h, lx.symm⟩
    · exact .inr ⟨xs, h, lx.symm⟩
  have lb : LenV g.K (.ref b) H ds.length := by
    rcases hb with h | h
    · exact .inl ⟨ys, h, ly.symm⟩
    · exact .inr ⟨ys, h, ly.symm⟩
  refine ⟨_, rfl, _, _, rfl, la, _, rfl, _, _, rfl, lb, rfl, _, rfl, iteNS rfl ?_⟩
  refine ⟨_, rfl, _, _, rfl, lb, _, rfl, by omega, by omega, for_range (n := ds.length) (fun i σ H' => H' = H ∧ ∃ v, σ = [some (.ref a), some (.ref b), v]) ⟨rfl, none, rfl⟩ ?_ ?_⟩
  · rintro i σ H' hi ⟨rfl, v, rfl⟩
    obtain ⟨u, hu, du⟩ := dpAll_get ax (List.getElem?_eq_getElem hi)
    obtain ⟨w, hw, dw⟩ := dpAll_get ay (List.getElem?_eq_getElem hi)
    have e : (0 : Int) + (i : Int) = ((i : Nat) : Int) := by omega
    have r1 : ∀ Q : VK, Q u H' → rIx g.K (.ref a) (.int (0 + (i : Int))) H' Q := fun Q q => by
      rw [e]
      rcases ha with h | h
      · exact .inl ⟨a, _, _, _, rfl, rfl, h, atI_nat hu, q⟩
      · exact .inr (.inl ⟨a, _, _, _, rfl, rfl, h, atI_nat hu, q⟩)
    have r2 : ∀ Q : VK, Q w H' → rIx g.K (.ref b) (.int (0 + (i : Int))) H' Q := fun Q q => by
      rw [e]
      rcases hb with h | h
      · exact .inl ⟨b, _, _, _, rfl, rfl, h, atI_nat hw, q⟩
      · exact .inr (.inl ⟨b, _, _, _, rfl, rfl, h, atI_nat hw, q⟩)
    refine ⟨_, rfl, _, rfl, r1 _ ⟨_, rfl, _, rfl, r2 _ ?_⟩⟩
    have dd : ds[i].depth ≤ n := Nat.le_trans (PyData.depth_le_depthAll ds _ (List.getElem_mem hi)) hd
    exact hsp _ _ _ _ ⟨u, w, ds[i], rfl, du, dw, dd, shortAll_get sh (List.getElem_mem hi), true, rfl, iteF ⟨rfl, _, rfl⟩⟩
  · rintro σ H' ⟨rfl, v, rfl⟩
    exact q
theorem if_isi {g : Ga} {D : Ends} {i : Nat} {x : V} {t n : String} {c : Bool} {a b : TS} {σ : L2.St} {H : Hp} (hx : σ[i]? = some (some x)) (ty : TyX g.K H x (.type t)) (hk : kitB t n = some c) (h : if c = true then a D σ H else b D σ H) :
    tIfS (tB (tCB (rIsi g.K) (tCons (tVar i) (tCons (tC (.ty n)) tNil)))) a b D σ H := ⟨x, hx, x, .ty n, _, _, c, rfl, .ty n, ty, kit_ty hk, c, rfl, h⟩
/-- isinstance(y, n) and not isinstance(x, n): False for two of one kind -/
theorem if_two {g : Ga} {D : Ends} {i j : Nat} {x y : V} {t n : String} {c : Bool} {a b : TS} {σ : L2.St} {H : Hp} (hx : σ[j]? = some (some x)) (hy : σ[i]? = some (some y)) (tx : TyX g.K H x (.type t)) (ty : TyX g.K H y (.type t)) (hk : kitB t n = some c) (h : b D σ H) :
    tIfS (tAnd (tB (tCB (rIsi g.K) (tCons (tVar i) (tCons (tC (.ty n)) tNil)))) (tNot (tB (tCB (rIsi g.K) (tCons (tVar j) (tCons (tC (.ty n)) tNil)))))) a b D σ H := by
  refine ⟨y, hy, y, .ty n, _, _, c, rfl, .ty n, ty, kit_ty hk, c, rfl, ?_⟩
  cases c with
  | false => exact iteF (iteF h)
  | true => exact iteT ⟨x, hx, x, .ty n, _, _, true, rfl, .ty n, tx, kit_ty hk, true, rfl, iteF h⟩
theorem andV_isi {g : Ga} {i : Nat} {x : V} {t n : String} {te : TE} {σ : L2.St} {H : Hp} {Q : VK} (hx : σ[i]? = some (some x)) (ty : TyX g.K H x (.type t)) (hk : kitB t n = some true) (h : te σ H Q) : tAndV (tCB (rIsi g.K) (tCons (tVar i) (tCons (tC (.ty n)) tNil))) te σ H Q :=
  ⟨x, hx, x, .ty n, _, _, true, rfl, .ty n, ty, kit_ty hk, true, rfl, iteT h⟩
theorem eq_same {i j : Nat} {x : V} {σ : L2.St} {H : Hp} {Q : VK} (hi : σ[i]? = some (some x)) (hj : σ[j]? = some (some x)) (hs : scal x x = true) (q : Q (.bl true) H) : tOp rEq (tVar i) (tVar j) σ H Q :=
  ⟨x, hi, x, hj, hs, by rw [decide_eq_true rfl]; exact q⟩
theorem pure_law_same {g : Ga} {n : Nat} {vs : List V} {H : Hp} {Q : VK} {E : XK} {N : List Str} (hN : N.length = 3) (sp : Sp) (hsp : ∀ m, n = m + 1 → ∀ vs H Q E, sp_law_same m g vs H Q E → sp vs H Q E) (h : sp_law_same n g vs H Q E) : t_law_same g sp (endsQ Q) (L2.start N vs) H := by
  obtain ⟨x, y, d, rfl, dx, dy, hd, sh, q⟩ := h
  have e0 : L2.start N [x, y] = [some x, some y, none] := by
    unfold L2.start; rw [hN]; rfl
  rw [e0]
  cases d with
  | none =>
    cases dx; cases dy
    exact ⟨_, rfl, rfl, _, rfl, iteT ⟨_, rfl, rfl, q⟩⟩
  | bool b =>
    have tx : TyX g.K H x (.type "bool") := dp_ty dx
    have ty : TyX g.K H y (.type "bool") := dp_ty dy
    cases dx; cases dy
    refine ⟨_, rfl, rfl, _, rfl, iteF ?_⟩
    refine if_isi (c := true) rfl ty (by decide +kernel) (iteT (andV_isi rfl tx (by decide +kernel) (eq_same rfl rfl rfl q)))
  | int i =>
    have tx : TyX g.K H x (.type "int") := dp_ty dx
    have ty : TyX g.K H y (.type "int") := dp_ty dy
    cases dx; cases dy
    refine ⟨_, rfl, rfl, _, rfl, iteF ?_⟩
    refine if_isi (c := false) rfl ty (by decide +kernel) (iteF ?_)
    refine if_isi (c := true) rfl ty (by decide +kernel) (iteT (andV_isi rfl tx (by decide +kernel) ?_))
    exact ⟨_, rfl, _, .ty "bool", _, _, false, rfl, .ty "bool", tx, kit_ty (by decide +kernel), false, rfl, true, rfl, iteT (eq_same rfl rfl rfl q)⟩
  | str z =>
    have tx : TyX g.K H x (.type "str") := dp_ty dx
    have ty : TyX g.K H y (.type "str") := dp_ty dy
    cases dx; cases dy
    refine ⟨_, rfl, rfl, _, rfl, iteF ?_⟩
    refine if_isi (c := false) rfl ty (by decide +kernel) (iteF ?_)
    refine if_isi (c := false) rfl ty (by decide +kernel) (iteF ?_)
    exact if_isi (c := true) rfl ty (by decide +kernel) (iteT (andV_isi rfl tx (by decide +kernel) (eq_same rfl rfl rfl q)))
  | list ds =>
    have tx : TyX g.K H x (.type "list") := dp_ty dx
    have ty : TyX g.K H y (.type "list") := dp_ty dy
    cases dx with
    | @lst a xs ds hx ax =>
      cases dy with
      | @lst b ys ds hy ay =>
        refine ⟨_, rfl, rfl, _, rfl, iteF ?_⟩
        refine if_isi (c := false) rfl ty (by decide +kernel) (iteF ?_)
        refine if_isi (c := false) rfl ty (by decide +kernel) (iteF ?_)
        refine if_isi (c := false) rfl ty (by decide +kernel) (iteF ?_)
        refine if_two (c := true) rfl rfl tx ty (by decide +kernel) ?_
        refine if_two (c := false) rfl rfl tx ty (by decide +kernel) ?_
        refine if_isi (c := false) rfl ty (by decide +kernel) (iteF ?_)
        unfold shortD at sh
        have sh' := Bool.and_eq_true_iff.mp sh
        have s1 := of_decide_eq_true sh'.1
        obtain ⟨m, rfl⟩ : ∃ m, n = m + 1 := ⟨n - 1, by unfold PyData.depth at hd; omega⟩
        have hd' : PyData.depthAll ds ≤ m := by unfold PyData.depth at hd; omega
        exact same_rows (n := m) (hsp m rfl) (xs := xs) (ys := ys) (ds := ds) ⟨a, rfl, .inl hx⟩ ⟨b, rfl, .inl hy⟩ ax ay (by omega) sh'.2 hd' q
  | tuple ds =>
    have tx : TyX g.K H x (.type "tuple") := dp_ty dx
    have ty : TyX g.K H y (.type "tuple") := dp_ty dy
    cases dx with
    | @tup a xs ds hx ax =>
      cases dy with
      | @tup b ys ds hy ay =>
        refine ⟨_, rfl, rfl, _, rfl, iteF ?_⟩
        refine if_isi (c := false) rfl ty (by decide +kernel) (iteF ?_)
        refine if_isi (c := false) rfl ty (by decide +kernel) (iteF ?_)
        refine if_isi (c := false) rfl ty (by decide +kernel) (iteF ?_)
        refine if_two (c := false) rfl rfl tx ty (by decide +kernel) ?_
        refine if_two (c := true) rfl rfl tx ty (by decide +kernel) ?_
        refine if_isi (c := false) rfl ty (by decide +kernel) (iteF ?_)
        unfold shortD at sh
        have sh' := Bool.and_eq_true_iff.mp sh
        have s1 := of_decide_eq_true sh'.1
        obtain ⟨m, rfl⟩ : ∃ m, n = m + 1 := ⟨n - 1, by unfold PyData.depth at hd; omega⟩
        have hd' : PyData.depthAll ds ≤ m := by unfold PyData.depth at hd; omega
        exact same_rows (n := m) (hsp m rfl) (xs := xs) (ys := ys) (ds := ds) ⟨a, rfl, .inr hx⟩ ⟨b, rfl, .inr hy⟩ ax ay (by omega) sh'.2 hd' q
  | dict _ => cases dx
end Sd
namespace Sd
open PySem PySem.Spec PyProof.Rows L2
/-! errors of the program: raise X(e), X with __init__(self, f): self.f = f -/
/-- a reading of arguments made monotone -/
def tMonoA (ta : TA) : TA := fun σ H Q => ∃ Q0 : List V → Hp → Prop, ta σ H Q0 ∧ ∀ vs H1, Q0 vs H1 → Q vs H1
theorem pa_mono {X : Cx} {es : List Expr} {ta : TA} (h : PA X es ta) : PA X es (tMonoA ta) := ⟨fun pos pins s σ H Q I ⟨Q0, h0, hq⟩ => thn (h.run pos pins s σ H Q0 I h0) fun us s' ⟨vs, H', I', r, q⟩ => ⟨vs, H', I', r, hq _ _ q⟩⟩
def sp_exc (C : Addr) (f : Str) : Sp := fun vs H Q _ => ∃ (a : Addr) (v : V), vs = [.ref a, v] ∧ H a = some (exo a C none) ∧ ∀ d, H d = none → d ≠ a → Q .non (upd (upd H d (exd d [(f, v)])) a (exo a C (some d)))
theorem len_exc {C : Addr} {f : Str} {vs : List V} {H : Hp} {Q : VK} {E : XK} (h : sp_exc C f vs H Q E) : vs.length = 2 := by
  obtain ⟨_, _, rfl, _⟩ := h; rfl
structure XCl (g : Ga) (mg : Str → Option Value) (base : Heap) (lv : Nat) (x f : Str) : Prop where
  ox : OexC g.K (g.c x)
  xf : XfC g.K (g.c x)
  no : PySem.W.findIn g.K (.ref (g.c x)) f = some none
  gl : mg x = some (.ref (g.c x))
  ex : ∃ fI fd ps, PySem.W.findIn g.K (.ref (g.c x)) "__init__" = some (some (.ref fI)) ∧ PySem.W.typeIn g.K (.ref fI) = some (.type "function") ∧ FnOk g.P g.w g.K mg base (L2.CX g.P g.w) lv fI fd ps (sp_exc (g.c x) f) ∧ Binds g.K fd ps []
/-- the making of the error: its own dict d holds f -/
def tMkX (C : Addr) (f : Str) (ta : TA) : L2.St → Hp → XK → Prop := fun σ H Q => ta σ H fun vs H1 => ∃ v, vs = [v] ∧ ∀ d, H1 d = none → Q (.ref C) (some d) (upd H1 d (.xd [(f, v)]))
theorem pmk_X {X : Cx} {lv : Nat} {x f : Str} {e : Expr} {ta : TA} {p pos : Pos} (c : XCl (gX X) X.mg X.base lv x f) (hr : Room (lv + 1) X.A) (hg : Gl X x) (ha : PA X [e] ta) (hd : (x == ("__debug__" : Str)) = false := by decide)
    (he : starEach (e :: []) X.env = (false, eval e X.env) :: starEach [] X.env := by rfl) (hpl : (backTo pos (starEach [] X.env)).any (·.1) = false := by rfl) :
    PMk X (.Call (.Name x p) [e] [] pos) (tMkX ((gX X).c x) f ta) := by
  obtain ⟨fI, fd, ps, h1, h2, F, hb⟩ := c.ex
  have base := pmk_oex (e := e) (es := []) (p := p) (pos := pos) (dvs := []) c.ox h1 h2 F hr hb .nil (fun _ _ _ _ _ _ _ h => by
    obtain ⟨_, _, _, _, _, _, _, _, _, _, _, _, z⟩ := h
    exact z.elim) hg c.gl (pa_mono ha) hd he hpl
  intro pins s σ H Q I h
  refine base pins s σ H Q I ⟨_, h, ?_⟩
  rintro vs H1 ⟨v, rfl, q⟩
  refine ⟨(show 1 ≤ 1000 by decide), fun a na => ⟨a, v, rfl, upd_same, fun d nd dne => ⟨rfl, d, [(f, v)], upd_same, ?_, ?_, ?_⟩⟩⟩
  · rw [upd_ne dne, upd_same]
  · rw [upd_ne dne] at nd; exact nd
  · have nd' : H1 d = none := by rw [upd_ne dne] at nd; exact nd
    have e1 : upd (del (upd (upd (upd H1 a (exo a ((gX X).c x) none)) d (exd d [(f, v)])) a (exo a ((gX X).c x) (some d))) a) d (.xd [(f, v)]) = upd H1 d (.xd [(f, v)]) := by
      funext b
      by_cases hb : b = d
      · subst hb; rw [upd_same, upd_same]
      · rw [upd_ne hb, upd_ne hb]
        by_cases ha : b = a
        · subst ha; rw [del_same, na]
        · rw [del_ne ha, upd_ne ha, upd_ne hb, upd_ne ha]
    rw [e1]
    exact q d nd'
/-- raise X(e) -/
def tRaiseX (C : Addr) (f : Str) (E : XK) (ta : TA) : TS := fun _ σ H => tMkX C f ta σ H fun cls d H' => (fun (cls : Value) (d : Option Addr) (_ : L2.St) (H : Hp) => E cls d H) cls d σ H'
/-- its __init__ -/
def t_exc (K : PySem.W.Frag) (f : Str) : TS := tOst K f (tVar 0) (tVar 1)
theorem pure_exc {g : Ga} {x f : Str} {N : List Str} {vs : List V} {H : Hp} {Q : VK} {E : XK} (ox : OexC g.K (g.c x)) (no : PySem.W.findIn g.K (.ref (g.c x)) f = some none) (h : sp_exc (g.c x) f vs H Q E) : t_exc g.K f (endsQ Q) (L2.start N vs) H := by
  obtain ⟨a, v, rfl, ha, q⟩ := h
  exact ⟨_, rfl, _, rfl, a, _, rfl, ox, no, .inl ⟨ha, fun dx h1 h2 => q dx h1 h2⟩⟩
/-- what is wanted where X(v) is raised, the rest as it was -/
def RaisesX (E : XK) (C : Addr) (f : Str) (v : V) (H : Hp) : Prop := ∀ d H', Same H H' → H' d = none → E (.ref C) (some d) (upd H' d (.xd [(f, v)]))
theorem RaisesX.same {E : XK} {C : Addr} {f : Str} {v : V} {H H1 : Hp} (h : RaisesX E C f v H) (s : Same H H1) : RaisesX E C f v H1 := fun d H' s' n => h d H' (s.trans s') n
end Sd
namespace Sd
open PySem PySem.Spec PyProof.Rows L2
/-! ### checks.py -/
def isNameB (z : Str) : Bool := decide (1 ≤ z.length) && decide (z.length ≤ 12) && (tl z).all fun c => decide (97 ≤ c ∧ c < 123)
theorem isNameB_iff {z : Str} : isNameB z = true ↔ IsName z := by
  unfold isNameB IsName
  rw [Bool.and_eq_true, Bool.and_eq_true, decide_eq_true_eq, decide_eq_true_eq, List.all_eq_true]
  constructor
  · rintro ⟨⟨a, b⟩, c⟩
    exact ⟨by omega, b, fun x hx => of_decide_eq_true (c x hx)⟩
  · rintro ⟨a, b, c⟩
    exact ⟨⟨by omega, b⟩, fun x hx => decide_eq_true (c x hx)⟩
/-- the value is no int (but perhaps a bool) -/
def NoInt (K : PySem.W.Frag) (H : Hp) (x : V) : Prop := ∃ t bi bb, TyX K H x t ∧ PySem.W.kitOne K t (.type "int") = some bi ∧ PySem.W.kitOne K t (.type "bool") = some bb ∧ (bi && !bb) = false
def NoTy (K : PySem.W.Frag) (H : Hp) (x : V) (n : String) : Prop := ∃ t, TyX K H x t ∧ PySem.W.kitOne K t (.type n) = some false
def IntV (K : PySem.W.Frag) (H : Hp) (x : V) (b : Bool) : Prop := (∃ i, x = .int i ∧ b = true) ∨ (NoInt K H x ∧ b = false)
def StateV (K : PySem.W.Frag) (H : Hp) (x : V) (b : Bool) : Prop := (∃ i : Int, x = .int i ∧ b = decide (0 ≤ i ∧ i ≤ 99)) ∨ (NoInt K H x ∧ b = false)
def NameV (K : PySem.W.Frag) (H : Hp) (x : V) (b : Bool) : Prop := (∃ z : Str, x = .str z ∧ z.length ≤ sizeLine ∧ b = isNameB z) ∨ (NoTy K H x "str" ∧ b = false)
def StepV (K : PySem.W.Frag) (H : Hp) (x : V) (b : Bool) : Prop := (∃ (a : Addr) (x0 x1 x2 : V) (b0 b1 b2 : Bool), x = .ref a ∧ SqT K H a [x0, x1, x2] ∧ StateV K H x0 b0 ∧ NameV K H x1 b1 ∧ StateV K H x2 b2 ∧ b = (b0 && (b1 && b2))) ∨
  (∃ (a : Addr) (xs : List V), x = .ref a ∧ SqT K H a xs ∧ xs.length ≠ 3 ∧ b = false) ∨ (NoTy K H x "tuple" ∧ b = false)
/-- a row (True), no row (False) -/
def RowV (K : PySem.W.Frag) (H : Hp) (x : V) (b : Bool) : Prop := ∃ t, TyX K H x t ∧ PySem.W.kitAny K t [.type "list", .type "tuple"] = some b
def sp_is_integer (g : Ga) : Sp := fun vs H Q _ => ∃ x b, vs = [x] ∧ IntV g.K H x b ∧ Q (.bl b) H
def sp_is_state (g : Ga) : Sp := fun vs H Q _ => ∃ x b, vs = [x] ∧ StateV g.K H x b ∧ Q (.bl b) H
def sp_is_name (g : Ga) : Sp := fun vs H Q _ => ∃ x b, vs = [x] ∧ NameV g.K H x b ∧ Q (.bl b) H
def sp_is_row (g : Ga) : Sp := fun vs H Q _ => ∃ x b, vs = [x] ∧ RowV g.K H x b ∧ ∀ H', Same H H' → Q (.bl b) H'
def sp_is_step (g : Ga) : Sp := fun vs H Q _ => ∃ x b, vs = [x] ∧ StepV g.K H x b ∧ Q (.bl b) H
def t_is_integer (g : Ga) : TS := (tRet (tAndV (tCB (rIsi g.K) (tCons (tVar 0) (tCons (tC (.ty "int")) tNil))) (tNotV (tCB (rIsi g.K) (tCons (tVar 0) (tCons (tC (.ty "bool")) tNil))))))
def t_is_state (g : Ga) : TS := (tRet (tAndV (tCall (sp_is_integer g) [] E0 (tCons (tVar 0) tNil)) (tChain rLe rLe (tC (.int 0)) (tVar 0) (tC (.int 99)))))
def t_is_name (g : Ga) : TS := (tSeq (tIfS (tOr (tNot (tB (tCB (rIsi g.K) (tCons (tVar 0) (tCons (tC (.ty "str")) tNil))))) (tNot (tTest (tChain rLe rLe (tC (.int 1)) (tCB rLenStr (tCons (tVar 0) tNil)) (tC (.int 12)))))) (tRet (tC (.bl false))) tNext) (tSeq (tFor (iStr (tVar 0)) (gName 1) (tIfS (tTest (tOp rNotInS (tVar 1) (tC (.str "abcdefghijklmnopqrstuvwxyz")))) (tRet (tC (.bl false))) tNext)) (tRet (tC (.bl true)))))
def t_is_row (g : Ga) : TS := (tRet (tCB (rIsiT g.K) (tCons (tVar 0) (tCons (tTup (tCons (tC (.ty "list")) (tCons (tC (.ty "tuple")) tNil))) tNil))))
def t_is_step (g : Ga) : TS := (tSeq (tIfS (tOr (tNot (tB (tCB (rIsi g.K) (tCons (tVar 0) (tCons (tC (.ty "tuple")) tNil))))) (tTest (tOp rNe (tCB (rLenS g.K) (tCons (tVar 0) tNil)) (tC (.int 3))))) (tRet (tC (.bl false))) tNext) (tRet (tAndV (tCall (sp_is_state g) [] E0 (tCons (tOp (rIxT g.K) (tVar 0) (tC (.int 0))) tNil)) (tAndV (tCall (sp_is_name g) [] E0 (tCons (tOp (rIxT g.K) (tVar 0) (tC (.int 1))) tNil)) (tCall (sp_is_state g) [] E0 (tCons (tOp (rIxT g.K) (tVar 0) (tC (.int 2))) tNil))))))
theorem int_ty {K : PySem.W.Frag} {H : Hp} (i : Int) : TyX K H (.int i) (.type "int") := .base (.int i)
theorem str_ty {K : PySem.W.Frag} {H : Hp} (z : Str) : TyX K H (.str z) (.type "str") := .base (.str z)
theorem kb {K : PySem.W.Frag} {a b : String} {r : Bool} (h : kitB a b = some r) : PySem.W.kitOne K (.type a) (.type b) = some r := h
theorem pure_is_integer {g : Ga} {vs : List V} {H : Hp} {Q : VK} {E : XK} (h : sp_is_integer g vs H Q E) : t_is_integer g (endsQ Q) (L2.start ["thing"] vs) H := by
  obtain ⟨x, b, rfl, hv, q⟩ := h
  rcases hv with ⟨i, rfl, rfl⟩ | ⟨⟨t, bi, bb, ty, k1, k2, e⟩, rfl⟩
  · exact ⟨_, rfl, _, .ty "int", _, _, true, rfl, .ty _, int_ty i, kb (by decide +kernel), true, rfl, iteT ⟨_, rfl, _, .ty "bool", _, _, false, rfl, .ty _, int_ty i, kb (by decide +kernel), false, rfl, q⟩⟩
  · refine ⟨_, rfl, _, .ty "int", _, _, bi, rfl, .ty _, ty, k1, bi, rfl, ?_⟩
    cases bi with
    | false => exact iteF q
    | true =>
      refine iteT ⟨_, rfl, _, .ty "bool", _, _, bb, rfl, .ty _, ty, k2, bb, rfl, ?_⟩
      cases bb with
      | true => exact q
      | false => cases e
theorem pure_is_state {g : Ga} {vs : List V} {H : Hp} {Q : VK} {E : XK} (h : sp_is_state g vs H Q E) : t_is_state g (endsQ Q) (L2.start ["thing"] vs) H := by
  obtain ⟨x, b, rfl, hv, q⟩ := h
  rcases hv with ⟨i, rfl, rfl⟩ | ⟨no, rfl⟩
  · refine ⟨_, rfl, _, true, rfl, .inl ⟨i, rfl, rfl⟩, true, rfl, iteT ?_⟩
    refine ⟨_, rfl, _, _, rfl, rfl, _, rfl, ?_⟩
    refine ite2 (fun c => ?_) (fun c => ?_)
    · have c1 := of_decide_eq_true c
      refine ⟨_, _, rfl, rfl, ?_⟩
      have e : decide (0 ≤ i ∧ i ≤ 99) = decide (i ≤ 99) := by simp [c1]
      rw [e] at q; exact q
    · have c1 : ¬ (0 : Int) ≤ i := fun z => c (decide_eq_true z)
      have e : decide (0 ≤ i ∧ i ≤ 99) = false := decide_eq_false fun z => c1 z.1
      rw [e] at q; exact q
  · exact ⟨_, rfl, _, false, rfl, .inr ⟨no, rfl⟩, false, rfl, iteF q⟩
theorem mem_abc {c : Nat} : (c ∈ tl abc) ↔ (97 ≤ c ∧ c < 123) := by
  rw [abc_tl, List.mem_map]
  constructor
  · rintro ⟨a, h, rfl⟩
    rw [List.mem_range] at h
    show 97 ≤ 97 + a ∧ 97 + a < 123
    omega
  · intro h
    exact ⟨c - 97, by rw [List.mem_range]; omega, by show 97 + (c - 97) = c; omega⟩
/-- for c in z: an invariant by the turn -/
theorem for_str {z : Str} {g : TG} {tb : TS} {D : Ends} {σ : L2.St} {H : Hp} (Pv : Nat → L2.St → Hp → Prop) (h0 : Pv 0 σ H)
    (hs : ∀ i c σ H, (tl z)[i]? = some c → Pv i σ H → g (.str ⟨#[c]⟩) σ H fun σ2 H2 => tb { nx := Pv (i + 1), rt := D.rt, bk := D.nx, ct := Pv (i + 1) } σ2 H2) (hd : ∀ σ H, Pv (tl z).length σ H → D.nx σ H) :
    ∃ W : Nat → Nat → L2.St → Hp → Prop, (∃ m, W 0 m σ H) ∧ ∀ i m σ H, W i m σ H → (Its z).stop i H ∧ D.nx σ H ∨ (Its z).go i H ∧ ∃ N : L2.St → Hp → Prop, (∀ σ' H', N σ' H' → ∃ m', m' < m ∧ W (i + 1) m' σ' H') ∧
      ∀ x H', (Its z).yld i H x H' → g x σ H' fun σ2 H2 => tb { nx := N, rt := D.rt, bk := D.nx, ct := N } σ2 H2 := by
  have hl : (tl z).length = z.cps.size := by simp [tl]
  refine ⟨fun i m σ H => m = (tl z).length - i ∧ i ≤ (tl z).length ∧ Pv i σ H, ⟨(tl z).length, by simp, Nat.zero_le _, h0⟩, ?_⟩
  rintro i m σ H ⟨rfl, hi, p⟩
  by_cases hlt : i < (tl z).length
  · refine .inr ⟨by show i < z.cps.size; omega, Pv (i + 1), fun σ' H' p' => ⟨(tl z).length - (i + 1), by omega, rfl, hlt, p'⟩, fun x H' y => ?_⟩
    obtain ⟨rfl, c, hc, rfl⟩ := y
    exact hs i c σ _ (by rw [tl, Array.getElem?_toList]; exact hc) p
  · have e : i = (tl z).length := by omega
    subst e
    exact .inl ⟨by show z.cps.size ≤ _; omega, hd σ H p⟩
theorem pure_is_name {g : Ga} {vs : List V} {H : Hp} {Q : VK} {E : XK} (h : sp_is_name g vs H Q E) : t_is_name g (endsQ Q) (L2.start ["thing", "letter"] vs) H := by
  obtain ⟨x, b, rfl, hv, q⟩ := h
  rcases hv with ⟨z, rfl, hz, rfl⟩ | ⟨⟨t, ty, k⟩, rfl⟩
  · refine ⟨_, rfl, _, .ty "str", _, _, true, rfl, .ty _, str_ty z, kb (by decide +kernel), true, rfl, iteF ?_⟩
    refine ⟨_, rfl, z, rfl, hz, _, _, rfl, rfl, _, rfl, ?_⟩
    have f : ∀ H', (¬ (1 ≤ z.length ∧ z.length ≤ 12)) → Q (.bl (isNameB z)) H' → Q (.bl false) H' := fun H' n q => by
      have e : isNameB z = false := by
        cases e : isNameB z with
        | false => rfl
        | true => exact absurd ⟨by have := (isNameB_iff.mp e).1; omega, (isNameB_iff.mp e).2.1⟩ n
      rw [e] at q; exact q
    refine ite2 (fun c => ?_) (fun c => ?_)
    · have c1 : (1 : Int) ≤ (z.length : Int) := of_decide_eq_true c
      refine ⟨_, _, rfl, rfl, _, rfl, ?_⟩
      show if (!decide ((z.length : Int) ≤ 12)) = true then _ else _
      by_cases c2 : (z.length : Int) ≤ 12
      · rw [decide_eq_true c2]
        refine iteF ?_
        refine ⟨_, rfl, z, rfl, for_str (z := z) (fun i σ H' => H' = H ∧ (∃ v, σ = [some (.str z), v]) ∧ ∀ c ∈ (tl z).take i, 97 ≤ c ∧ c < 123) ⟨rfl, ⟨none, rfl⟩, fun c hc => by simp at hc⟩ ?_ ?_⟩
        · rintro i c σ H' hc ⟨rfl, ⟨v, rfl⟩, all⟩
          refine ⟨_, rfl, c, abc, rfl, rfl, _, rfl, ?_⟩
          by_cases hm : c ∈ tl abc
          · rw [decide_eq_true hm]
            refine iteF ⟨rfl, ⟨_, rfl⟩, fun c' hc' => ?_⟩
            rw [List.take_add_one, hc, Option.toList_some] at hc'
            rcases List.mem_append.mp hc' with w | w
            · exact all c' w
            · rw [List.mem_singleton.mp w]; exact mem_abc.mp hm
          · rw [decide_eq_false hm]
            refine iteT ?_
            have e : isNameB z = false := by
              cases e : isNameB z with
              | false => rfl
              | true => exact absurd (mem_abc.mpr ((isNameB_iff.mp e).2.2 c (List.mem_of_getElem? hc))) hm
            rw [e] at q; exact q
        · rintro σ H' ⟨rfl, ⟨v, rfl⟩, all⟩
          rw [List.take_length] at all
          have e : isNameB z = true := isNameB_iff.mpr ⟨by omega, by omega, all⟩
          rw [e] at q; exact q
      · rw [decide_eq_false c2]
        exact iteT (f _ (fun w => c2 (by omega)) q)
    · have c1 : ¬ (1 : Int) ≤ (z.length : Int) := fun w => c (decide_eq_true w)
      exact ⟨_, rfl, iteT (f _ (fun w => c1 (by omega)) q)⟩
  · exact ⟨_, rfl, _, .ty "str", _, _, false, rfl, .ty _, ty, k, false, rfl, iteT (iteT q)⟩
theorem tyx_mono {K : PySem.W.Frag} {H H' : Hp} {x : V} {t : Value} (s : Same H H') (h : TyX K H x t) : TyX K H' x t := by
  cases h with
  | base h =>
    cases h with
    | non => exact .base .non
    | bl b => exact .base (.bl b)
    | int i => exact .base (.int i)
    | str z => exact .base (.str z)
    | flt f => exact .base (.flt f)
    | lst e => exact .base (.lst (s _ _ e))
    | frz e => exact .base (.frz (s _ _ e))
    | tup e => exact .base (.tup (s _ _ e))
    | dK e => exact .base (.dK (s _ _ e))
    | dT e => exact .base (.dT (s _ _ e))
    | ins e cl ha hn htk hm => exact .base (.ins (s _ _ e) cl ha hn htk hm)
  | byt b => exact .byt b
  | set e => exact .set (s _ _ e)
  | kList e c => exact .kList e c
  | kTuple e c => exact .kTuple e c
  | kDict e c => exact .kDict e c
  | fTuple e => exact .fTuple (s _ _ e)
  | fDict e => exact .fDict (s _ _ e)
theorem pure_is_row {g : Ga} {vs : List V} {H : Hp} {Q : VK} {E : XK} (h : sp_is_row g vs H Q E) : t_is_row g (endsQ Q) (L2.start ["thing"] vs) H := by
  obtain ⟨x, b, rfl, ⟨t, ty, k⟩, q⟩ := h
  refine ⟨_, rfl, by show 2 ≤ sizeLine; decide, fun p hp => ?_⟩
  exact ⟨x, p, _, t, _, b, rfl, upd_same, .cons (.ty _) (.cons (.ty _) .nil), tyx_mono (Same.new hp) ty, k, q _ (Same.new hp)⟩
theorem pure_is_step {g : Ga} {vs : List V} {H : Hp} {Q : VK} {E : XK} (h : sp_is_step g vs H Q E) : t_is_step g (endsQ Q) (L2.start ["thing"] vs) H := by
  obtain ⟨x, b, rfl, hv, q⟩ := h
  rcases hv with ⟨a, x0, x1, x2, b0, b1, b2, rfl, hs, v0, v1, v2, rfl⟩ | ⟨a, xs, rfl, hs, hl, rfl⟩ | ⟨⟨t, ty, k⟩, rfl⟩
  · refine ⟨_, rfl, _, .ty "tuple", _, _, true, rfl, .ty _, st_ty hs, kb (by decide +kernel), true, rfl, iteF ?_⟩
    refine ⟨_, rfl, a, _, rfl, .inr hs, rfl, _, rfl, iteF ?_⟩
    refine ⟨_, rfl, a, _, _, x0, rfl, rfl, hs, rfl, x0, b0, rfl, v0, b0, rfl, ?_⟩
    cases b0 with
    | false => exact iteF q
    | true =>
      refine iteT ⟨_, rfl, a, _, _, x1, rfl, rfl, hs, rfl, x1, b1, rfl, v1, b1, rfl, ?_⟩
      cases b1 with
      | false => exact iteF q
      | true => exact iteT ⟨_, rfl, a, _, _, x2, rfl, rfl, hs, rfl, x2, b2, rfl, v2, q⟩
  · refine ⟨_, rfl, _, .ty "tuple", _, _, true, rfl, .ty _, st_ty hs, kb (by decide +kernel), true, rfl, iteF ?_⟩
    refine ⟨_, rfl, a, _, rfl, .inr hs, rfl, _, rfl, ?_⟩
    have e : decide (V.int (xs.length : Int) = V.int 3) = false := decide_eq_false fun z => hl (by
      injection z with z
      omega)
    rw [e]
    exact iteT q
  · exact ⟨_, rfl, _, .ty "tuple", _, _, false, rfl, .ty _, ty, k, false, rfl, iteT (iteT q)⟩
theorem NoInt.mono {K : PySem.W.Frag} {H H' : Hp} {x : V} (s : Same H H') (h : NoInt K H x) : NoInt K H' x := let ⟨t, bi, bb, a, r⟩ := h; ⟨t, bi, bb, tyx_mono s a, r⟩
theorem NoTy.mono {K : PySem.W.Frag} {H H' : Hp} {x : V} {n : String} (s : Same H H') (h : NoTy K H x n) : NoTy K H' x n := let ⟨t, a, r⟩ := h; ⟨t, tyx_mono s a, r⟩
theorem StateV.mono {K : PySem.W.Frag} {H H' : Hp} {x : V} {b : Bool} (s : Same H H') (h : StateV K H x b) : StateV K H' x b := h.imp id fun z => ⟨z.1.mono s, z.2⟩
theorem NameV.mono {K : PySem.W.Frag} {H H' : Hp} {x : V} {b : Bool} (s : Same H H') (h : NameV K H x b) : NameV K H' x b := h.imp id fun z => ⟨z.1.mono s, z.2⟩
theorem StepV.mono {K : PySem.W.Frag} {H H' : Hp} {x : V} {b : Bool} (s : Same H H') (h : StepV K H x b) : StepV K H' x b := by
  rcases h with ⟨a, x0, x1, x2, b0, b1, b2, e, hs, v0, v1, v2, eb⟩ | ⟨a, xs, e, hs, hl, eb⟩ | ⟨no, eb⟩
  · exact .inl ⟨a, x0, x1, x2, b0, b1, b2, e, Same.tup s hs, v0.mono s, v1.mono s, v2.mono s, eb⟩
  · exact .inr (.inl ⟨a, xs, e, Same.tup s hs, hl, eb⟩)
  · exact .inr (.inr ⟨no.mono s, eb⟩)
theorem RowV.mono {K : PySem.W.Frag} {H H' : Hp} {x : V} {b : Bool} (s : Same H H') (h : RowV K H x b) : RowV K H' x b := let ⟨t, a, r⟩ := h; ⟨t, tyx_mono s a, r⟩
theorem row_list {K : PySem.W.Frag} {H : Hp} {a : Addr} {xs : List V} (h : SqL K H a xs) : RowV K H (.ref a) true := ⟨_, sq_ty h, by unfold PySem.W.kitAny; rw [kb (a := "list") (b := "list") (r := true) (by decide +kernel)]⟩
theorem row_tup {K : PySem.W.Frag} {H : Hp} {a : Addr} {xs : List V} (h : SqT K H a xs) : RowV K H (.ref a) true := ⟨_, st_ty h, by
  unfold PySem.W.kitAny; rw [kb (a := "tuple") (b := "list") (r := false) (by decide +kernel)]
  unfold PySem.W.kitAny; rw [kb (a := "tuple") (b := "tuple") (r := true) (by decide +kernel)]⟩
end Sd
namespace Sd
open PySem PySem.Spec PyProof.Rows L2
/-! ### rows that are a list or a tuple -/
theorem PI.or {X : Cx} {tg l : Expr} {w1 w2 : TI} (h1 : PI X tg l w1) (h2 : PI X tg l w2) : PI X tg l (fun σ H R => w1 σ H R ∨ w2 σ H R) := ⟨fun pins s σ H R I h => h.elim (h1.run pins s σ H R I) (h2.run pins s σ H R I)⟩
def iSeq (K : PySem.W.Frag) (te : TE) : TI := fun σ H R => iList K te σ H R ∨ iTup K te σ H R
def iEnumS (K : PySem.W.Frag) (ta : TA) : TI := fun σ H R => iEnum K ta σ H R ∨ iEnumT K ta σ H R
theorem pi_seq {X : Cx} {tg l : Expr} {te : TE} (h : PE X l te) : PI X tg l (iSeq X.K te) := PI.or (pi_list h) (pi_tup h)
theorem pi_enumS {X : Cx} {e : Expr} {ta : TA} {p pos tpos : Pos} {elts : List Expr} {kk : Nat} (hg : Gl X "enumerate") (hm : X.mg "enumerate" = none) (ha : PA X [e] ta) (hs : starEach [e] X.env = [(false, eval e X.env)] := by rfl) :
    PI X (.Tuple elts kk tpos) (.Call (.Name "enumerate" p) [e] [] pos) (iEnumS X.K ta) := PI.or (pi_enum hg hm ha hs) (pi_enumT hg hm ha hs)
/-- enumerate(a list): an invariant by the turn -/
theorem for_enumL {K : PySem.W.Frag} {a : Addr} {xs : List V} {g : TG} {tb : TS} {D : Ends} {σ : L2.St} {H : Hp} (Pv : Nat → L2.St → Hp → Prop) (h0 : Pv 0 σ H) (hl : ∀ i σ H, i ≤ xs.length → Pv i σ H → SqL K H a xs)
    (hs : ∀ i x T σ H, xs[i]? = some x → Pv i σ H → H T = none → g (.ref T) σ (upd H T (.tup [.int (i : Nat), x])) fun σ2 H2 => tb { nx := Pv (i + 1), rt := D.rt, bk := D.nx, ct := Pv (i + 1) } σ2 H2)
    (hd : ∀ σ H, Pv xs.length σ H → D.nx σ H) :
    ∃ W : Nat → Nat → L2.St → Hp → Prop, (∃ m, W 0 m σ H) ∧ ∀ i m σ H, W i m σ H → (Ite K a).stop i H ∧ D.nx σ H ∨ (Ite K a).go i H ∧ ∃ N : L2.St → Hp → Prop, (∀ σ' H', N σ' H' → ∃ m', m' < m ∧ W (i + 1) m' σ' H') ∧
      ∀ x H', (Ite K a).yld i H x H' → g x σ H' fun σ2 H2 => tb { nx := N, rt := D.rt, bk := D.nx, ct := N } σ2 H2 := by
  refine ⟨fun i m σ H => m = xs.length - i ∧ i ≤ xs.length ∧ Pv i σ H, ⟨xs.length, by simp, Nat.zero_le _, h0⟩, ?_⟩
  rintro i m σ H ⟨rfl, hi, p⟩
  have q := hl i σ H hi p
  by_cases hlt : i < xs.length
  · refine .inr ⟨⟨xs, xs[i], q, by simp [hlt]⟩, Pv (i + 1), fun σ' H' p' => ⟨xs.length - (i + 1), by omega, rfl, hlt, p'⟩, fun x H' y => ?_⟩
    obtain ⟨T, z, rfl, hT, rfl, hz⟩ := y
    exact hs i z T σ H (hz xs q) p hT
  · have e : i = xs.length := by omega
    subst e
    exact .inl ⟨⟨xs, q, Nat.le_refl _⟩, hd σ H p⟩
/-! ### steps -/
abbrev Step := Int × Str × Int
def StepAt (K : PySem.W.Frag) (H : Hp) (v : V) (s : Step) : Prop := ∃ a, v = .ref a ∧ SqT K H a [.int s.1, .str s.2.1, .int s.2.2]
def stepD (s : Step) : PyData := .tuple [.int s.1, .str s.2.1, .int s.2.2]
abbrev StepsAt (K : PySem.W.Frag) (H : Hp) (xs : List V) (L : List Step) : Prop := Paired (StepAt K H) xs L
theorem StepAt.mono {K : PySem.W.Frag} {H H' : Hp} {v : V} {s : Step} (e : Same H H') (h : StepAt K H v s) : StepAt K H' v s := let ⟨a, r, t⟩ := h; ⟨a, r, Same.tup e t⟩
theorem paired_mono {α β : Type} {F G : α → β → Prop} (h : ∀ a b, F a b → G a b) : ∀ {l : List α} {m : List β}, Paired F l m → Paired G l m
  | _, _, .nil => .nil
  | _, _, .cons r t => .cons (h _ _ r) (paired_mono h t)
theorem StepsAt.mono {K : PySem.W.Frag} {H H' : Hp} {xs : List V} {L : List Step} (e : Same H H') (h : StepsAt K H xs L) : StepsAt K H' xs L := paired_mono (fun _ _ z => z.mono e) h
theorem paired_get {α β : Type} {F : α → β → Prop} : ∀ {l : List α} {m : List β} {i : Nat} {a : α}, Paired F l m → l[i]? = some a → ∃ b, m[i]? = some b ∧ F a b
  | _, _, _, _, .nil, e => by simp at e
  | _, _, 0, _, .cons r _, e => by
    simp only [List.getElem?_cons_zero, Option.some.injEq] at e
    subst e; exact ⟨_, rfl, r⟩
  | _, _, i + 1, _, .cons _ t, e => by
    simp only [List.getElem?_cons_succ] at e
    obtain ⟨b, h1, h2⟩ := paired_get t e
    exact ⟨b, by simpa using h1, h2⟩
theorem paired_app {α β : Type} {F : α → β → Prop} : ∀ {l l' : List α} {m m' : List β}, Paired F l m → Paired F l' m' → Paired F (l ++ l') (m ++ m')
  | _, _, _, _, .nil, s => s
  | _, _, _, _, .cons r t, s => .cons r (paired_app t s)
theorem paired_take {α β : Type} {F : α → β → Prop} : ∀ {l : List α} {m : List β} (n : Nat), Paired F l m → Paired F (l.take n) (m.take n)
  | _, _, 0, _ => by simp only [List.take_zero]; exact .nil
  | _, _, n + 1, .nil => .nil
  | _, _, n + 1, .cons r t => .cons r (paired_take n t)
theorem dp_step {K : PySem.W.Frag} {H : Hp} {v : V} {s : Step} (h : StepAt K H v s) : Dp K H v (stepD s) := by
  obtain ⟨a, rfl, t⟩ := h
  exact .tup t (.cons (.int _) (.cons (.str _) (.cons (.int _) .nil)))
theorem dp_steps {K : PySem.W.Frag} {H : Hp} : ∀ {xs : List V} {L : List Step}, StepsAt K H xs L → DpAll K H xs (L.map stepD)
  | _, _, .nil => .nil
  | _, _, .cons r t => .cons (dp_step r) (dp_steps t)
theorem step_eqv (a b : Step) : PyData.eqv (stepD a) (stepD b) = decide (a = b) := by
  obtain ⟨a1, a2, a3⟩ := a; obtain ⟨b1, b2, b3⟩ := b
  simp only [stepD, PyData.eqv, PyData.eqvAll]
  by_cases h1 : a1 = b1
  · by_cases h2 : a2 = b2
    · by_cases h3 : a3 = b3
      · subst h1; subst h2; subst h3; simp
      · simp [h3]
    · simp [h2]
  · simp [h1]
theorem any_step (s : Step) (L : List Step) : (L.map stepD).any (fun z => z.eqv (stepD s)) = decide (s ∈ L) := by
  induction L with
  | nil => simp
  | cons a L ih =>
    rw [List.map_cons, List.any_cons, ih, step_eqv]
    by_cases h : a = s
    · subst h; simp
    · have h2 : ¬ s = a := fun z => h z.symm
      simp [h, h2]
theorem name_strOk {z : Str} (h : IsName z) : PyData.strOk z = true := by
  unfold PyData.strOk
  rw [← Array.all_toList, List.all_eq_true]
  intro c hc
  have := h.2.2 c hc
  exact decide_eq_true (by omega)
def okStep (s : Step) : Prop := (0 ≤ s.1 ∧ s.1 ≤ 99) ∧ IsName s.2.1 ∧ (0 ≤ s.2.2 ∧ s.2.2 ≤ 99)
theorem step_shaped {s : Step} (h : okStep s) : SeqAt.shaped (stepD s) = true := by
  unfold SeqAt.shaped stepD; simp [PyData.canLay0, PyData.canLayAll0, PyData.depth, PyData.depthAll, name_strOk h.2.1]
theorem steps_lay : ∀ L : List Step, (∀ s ∈ L, okStep s) → PyData.canLayAll0 (L.map stepD) = true ∧ PyData.depthAll (L.map stepD) ≤ 1
  | [], _ => ⟨rfl, Nat.zero_le _⟩
  | s :: L, hk => by
    have ih := steps_lay L fun t ht => hk t (List.mem_cons_of_mem _ ht)
    have h1 := hk s List.mem_cons_self
    rw [List.map_cons]
    refine ⟨?_, ?_⟩
    · simp only [PyData.canLayAll0, ih.1, Bool.and_true]
      simp [stepD, PyData.canLay0, PyData.canLayAll0, name_strOk h1.2.1]
    · simp only [PyData.depthAll]
      have : (stepD s).depth = 1 := by simp [stepD, PyData.depth, PyData.depthAll]
      omega
theorem steps_shaped {L : List Step} (hk : ∀ s ∈ L, okStep s) : SeqAt.shaped (.list (L.map stepD)) = true := by
  have h := steps_lay L hk
  unfold SeqAt.shaped
  rw [Bool.and_eq_true]
  refine ⟨?_, decide_eq_true ?_⟩
  · simp only [PyData.canLay0]; exact h.1
  · simp only [PyData.depth]; omega
/-! ### leaving -/
def leavingN (L : List Step) (s : Int) : Nat := (L.filter fun t => decide (t.1 = s)).length
def sp_leaving (g : Ga) : Sp := fun vs H Q _ => ∃ (l : Addr) (xs : List V) (L : List Step) (s : Int), vs = [.ref l, .int s] ∧ SqL g.K H l xs ∧ StepsAt g.K H xs L ∧ L.length ≤ 1000 ∧ ∀ H', Same H H' → Q (.int (leavingN L s)) H'
def t_leaving (g : Ga) : TS := (tRet (tCB (rLenS g.K) (tCons (tLc (iList g.K (tVar 0)) (gName 2) (tTest (tOp rEq (tOp (rIxT g.K) (tVar 2) (tC (.int 0))) (tVar 1))) (tVar 2) [2]) tNil)))
theorem pure_leaving {g : Ga} {vs : List V} {H : Hp} {Q : VK} {E : XK} (h : sp_leaving g vs H Q E) : t_leaving g (endsQ Q) (L2.start ["steps", "state", "step"] vs) H := by
  obtain ⟨l, xs, L, s, rfl, hs, hL, few, q⟩ := h
  have hlen := hL.length
  refine ⟨_, rfl, l, rfl, ⟨_, hs⟩, fun D hD => ?_⟩
  refine lc_list (K := g.K) (a := l) (xs := xs) (fun i H' => Same H H' ∧ ∃ ys, H' D = some (.lst ys) ∧ ys.length = leavingN (L.take i) s) ⟨Same.new hD, [], upd_same, rfl⟩ (fun i H' _ z => z.1.seq hs) ?_ ?_
  · rintro i x H' hx ⟨sm, ys, hy, hl⟩
    obtain ⟨t, ht, a, rfl, st⟩ := paired_get hL hx
    refine ⟨rfl, ?_⟩
    refine ⟨_, rfl, a, _, _, .int t.1, rfl, rfl, Same.tup sm st, rfl, _, rfl, rfl, _, rfl, ?_⟩
    have ex : leavingN (L.take (i + 1)) s = leavingN (L.take i) s + if t.1 = s then 1 else 0 := by
      unfold leavingN
      rw [List.take_add_one, ht, Option.toList_some, List.filter_append, List.length_append]
      by_cases h : t.1 = s
      · simp [h]
      · simp [h]
    have lys : ys.length ≤ 1000 := by
      rw [hl]; unfold leavingN
      have h1 := List.length_filter_le (fun t : Step => decide (t.1 = s)) (L.take i)
      have h2 : (L.take i).length ≤ L.length := by rw [List.length_take]; omega
      omega
    by_cases h : t.1 = s
    · have e : decide (V.int t.1 = V.int s) = true := decide_eq_true (by rw [h])
      rw [e]
      refine iteT ⟨_, rfl, ys, hy, small1000 lys, ?_⟩
      refine ⟨Same.own sm hD, ys ++ [.ref a], upd_same, ?_⟩
      rw [ex, if_pos h, List.length_append, hl]; rfl
    · have e : decide (V.int t.1 = V.int s) = false := decide_eq_false (fun z => h (by injection z))
      rw [e]
      refine iteF ⟨sm, ys, hy, ?_⟩
      rw [ex, if_neg h, hl]; rfl
  · rintro H' ⟨sm, ys, hy, hl⟩
    rw [hlen, List.take_length] at hl
    refine ⟨D, ys, rfl, .inl (SqL.of hy), ?_⟩
    rw [hl]
    exact q H' sm
end Sd
namespace Sd
open PySem PySem.Spec PyProof.Rows L2
/-! ### checked_steps -/
/-- what an item is: a step, or none -/
def ItemV (K : PySem.W.Frag) (H : Hp) (v : V) : Option Step → Prop
  | some s => StepAt K H v s ∧ okStep s
  | none => StepV K H v false
theorem ItemV.mono {K : PySem.W.Frag} {H H' : Hp} {v : V} {o : Option Step} (e : Same H H') (h : ItemV K H v o) : ItemV K H' v o := by
  cases o with
  | some s => exact ⟨StepAt.mono e h.1, h.2⟩
  | none => exact StepV.mono e h
theorem ItemV.step {K : PySem.W.Frag} {H : Hp} {v : V} {s : Step} (h : ItemV K H v (some s)) : StepV K H v true := by
  obtain ⟨⟨a, rfl, t⟩, h0, h1, h2⟩ := h
  have hl : s.2.1.length ≤ sizeLine := by
    have := h1.2.1
    have : (12 : Nat) ≤ sizeLine := by decide
    omega
  exact .inl ⟨a, _, _, _, true, true, true, rfl, t, .inl ⟨_, rfl, (decide_eq_true h0).symm⟩, .inl ⟨_, rfl, hl, (isNameB_iff.mpr h1).symm⟩, .inl ⟨_, rfl, (decide_eq_true h2).symm⟩, rfl⟩
/-- the index of the first item that is not taken (kept: the steps so far), or all are -/
def firstBad : List (Option Step) → List Step → Nat → Option Nat
  | [], _, _ => none
  | none :: _, _, i => some i
  | some s :: r, kept, i => if s ∈ kept then some i else if leavingN kept s.1 = 4 then some i else firstBad r (kept ++ [s]) (i + 1)
def sp_checked_steps (g : Ga) : Sp := fun vs H Q E => ∃ x, vs = [x] ∧ ((RowV g.K H x false ∧ RaisesX E g.cBadSteps "at" (.int (-1)) H) ∨
  ∃ xs : List V, seqOf g.K H x xs ∧ ((¬ (1 ≤ xs.length ∧ xs.length ≤ 24) ∧ RaisesX E g.cBadSteps "at" (.int (-1)) H) ∨
    ((1 ≤ xs.length ∧ xs.length ≤ 24) ∧ ∃ its : List (Option Step), Paired (ItemV g.K H) xs its ∧ (∀ i : Nat, firstBad its [] 0 = some i → RaisesX E g.cBadSteps "at" (.int i) H) ∧
      (firstBad its [] 0 = none → ∀ p H', Same H H' → H p = none → H' p = some (.tup xs) → Q (.ref p) H'))))
def t_checked_steps (g : Ga) (E : XK) : TS := (tSeq (tIfS (tOr (tNot (tB (tCall (sp_is_row g) [] E0 (tCons (tVar 0) tNil)))) (tNot (tTest (tChain rLe rLe (tC (.int 1)) (tCB (rLen g.K) (tCons (tVar 0) tNil)) (tC (.int 24)))))) (tRaiseX g.cBadSteps "at" E (tCons (tUn rNeg (tC (.int 1))) tNil)) tNext) (tSeq (tAsg (tLst tNil) (gName 1)) (tSeq (tFor (iEnumS g.K (tCons (tVar 0) tNil)) (gTup g.K 2 (gCons (gName 2) (gCons (gName 3) gNil))) (tSeq (tIfS (tOr (tNot (tB (tCall (sp_is_step g) [] E0 (tCons (tVar 3) tNil)))) (tTest (tOp (rInD g.K) (tVar 3) (tVar 1)))) (tRaiseX g.cBadSteps "at" E (tCons (tVar 2) tNil)) tNext) (tSeq (tIfS (tTest (tOp rEq (tCall (sp_leaving g) [] E0 (tCons (tVar 1) (tCons (tOp (rIxT g.K) (tVar 3) (tC (.int 0))) tNil))) (tC (.int 4)))) (tRaiseX g.cBadSteps "at" E (tCons (tVar 2) tNil)) tNext) (tDrop (tBM g.K "list" rApp (tVar 1) (tCons (tVar 3) tNil)))))) (tRet (tCB (rTupS g.K) (tCons (tVar 1) tNil))))))
def t_cs_turn (g : Ga) (E : XK) : TS := (tSeq (tIfS (tOr (tNot (tB (tCall (sp_is_step g) [] E0 (tCons (tVar 3) tNil)))) (tTest (tOp (rInD g.K) (tVar 3) (tVar 1)))) (tRaiseX g.cBadSteps "at" E (tCons (tVar 2) tNil)) tNext) (tSeq (tIfS (tTest (tOp rEq (tCall (sp_leaving g) [] E0 (tCons (tVar 1) (tCons (tOp (rIxT g.K) (tVar 3) (tC (.int 0))) tNil))) (tC (.int 4)))) (tRaiseX g.cBadSteps "at" E (tCons (tVar 2) tNil)) tNext) (tDrop (tBM g.K "list" rApp (tVar 1) (tCons (tVar 3) tNil)))))
theorem raiseX {C : Addr} {f : Str} {E : XK} {D : Ends} {σ : L2.St} {H0 H : Hp} {v : V} {te : TE} (s : Same H0 H) (r : RaisesX E C f v H0) (he : ∀ Q : List V → Hp → Prop, Q [v] H → (tCons te tNil) σ H Q) : tRaiseX C f E (tCons te tNil) D σ H := by
  unfold tRaiseX tMkX
  exact he _ ⟨v, rfl, fun d hd => r d H s hd⟩
/-- the turn of one item -/
theorem cs_turn {g : Ga} {E : XK} {D : Ends} {H0 H : Hp} {x v : V} {l : Addr} {o : Option Step} {kx : List V} {kept : List Step} {i : Nat} {r : List (Option Step)} (sm : Same H0 H) (hl0 : H0 l = none) (hl : H l = some (.lst kx)) (hk : StepsAt g.K H kx kept) (okk : ∀ s ∈ kept, okStep s) (few : kept.length ≤ 100)
    (hv : ItemV g.K H v o) (bad : ∀ j : Nat, firstBad (o :: r) kept i = some j → RaisesX E g.cBadSteps "at" (.int j) H0)
    (nx : ∀ s H', o = some s → okStep s → firstBad (o :: r) kept i = firstBad r (kept ++ [s]) (i + 1) → Same H0 H' → H' l = some (.lst (kx ++ [v])) → StepsAt g.K H' (kx ++ [v]) (kept ++ [s]) → D.nx [some x, some (.ref l), some (.int i), some v] H') :
    t_cs_turn g E D [some x, some (.ref l), some (.int i), some v] H := by
  cases o with
  | none => exact ⟨_, rfl, _, false, rfl, hv, false, rfl, iteT (iteT (raiseX sm (bad i rfl) fun Q q => ⟨_, rfl, q⟩))⟩
  | some s =>
    refine ⟨_, rfl, _, true, rfl, hv.step, true, rfl, iteF ?_⟩
    refine ⟨_, rfl, _, rfl, stepD s, _, dp_step hv.1, .lst (SqL.of hl) (dp_steps hk), step_shaped hv.2, steps_shaped okk, _, rfl, ?_⟩
    rw [any_step]
    by_cases c : s ∈ kept
    · rw [decide_eq_true c]
      exact iteT (raiseX sm (bad i (by simp [firstBad, c])) fun Q q => ⟨_, rfl, q⟩)
    · rw [decide_eq_false c]
      refine iteF ?_
      obtain ⟨a, rfl, st⟩ := hv.1
      refine ⟨_, rfl, _, rfl, a, _, _, .int s.1, rfl, rfl, st, rfl, l, kx, kept, s.1, rfl, SqL.of hl, hk, by omega, fun H1 s1 => ?_⟩
      refine ⟨rfl, _, rfl, ?_⟩
      by_cases c2 : leavingN kept s.1 = 4
      · have e : decide (V.int (leavingN kept s.1 : Nat) = V.int 4) = true := decide_eq_true (by rw [c2]; rfl)
        rw [e]
        exact iteT (raiseX (sm.trans s1) (bad i (by simp [firstBad, c, c2])) fun Q q => ⟨_, rfl, q⟩)
      · have e : decide (V.int (leavingN kept s.1 : Nat) = V.int 4) = false := decide_eq_false fun z => c2 (by injection z with z; omega)
        rw [e]
        refine iteF ?_
        have hl1 := s1 _ _ hl
        refine ⟨_, rfl, .inl ⟨rfl, _, SqL.of hl1⟩, _, rfl, l, _, _, rfl, rfl, hl1, ?_, ?_⟩
        · have e := hk.length
          exact small1000 (by omega)
        · have s2 : Same H0 (upd H1 l (.lst (kx ++ [.ref a]))) := Same.own (sm.trans s1) hl0
          have keep : ∀ b xs, SqT g.K H1 b xs → SqT g.K (upd H1 l (.lst (kx ++ [.ref a]))) b xs := fun b xs h => by
            rcases h with (h | ⟨o, h⟩) | h
            · refine .inl (.inl ?_); rw [upd_ne (ne_of h hl1 (by intro z; cases z))]; exact h
            · refine .inl (.inr ⟨o, ?_⟩); rw [upd_ne (ne_of h hl1 (by intro z; cases z))]; exact h
            · exact .inr h
          refine nx s _ rfl hv.2 (by simp [firstBad, c, c2]) s2 upd_same (paired_app (paired_mono (fun u t ⟨b, e, z⟩ => ⟨b, e, keep b _ (Same.tup s1 z)⟩) hk) (.cons ⟨a, rfl, keep a _ (Same.tup s1 st)⟩ .nil))
theorem pure_checked_steps {g : Ga} {vs : List V} {H : Hp} {Q : VK} {E : XK} (h : sp_checked_steps g vs H Q E) : t_checked_steps g E (endsQ Q) (L2.start ["steps", "kept", "at", "step"] vs) H := by
  obtain ⟨x, rfl, ⟨no, ra⟩ | ⟨xs, hx, alt⟩⟩ := h
  · exact ⟨_, rfl, x, false, rfl, no, fun H1 s1 => ⟨false, rfl, iteT (iteT (raiseX s1 ra fun Q q => ⟨_, rfl, q⟩))⟩⟩
  · obtain ⟨a, rfl, hs⟩ := hx
    have row : RowV g.K H (.ref a) true := hs.elim row_list row_tup
    refine ⟨_, rfl, _, true, rfl, row, fun H1 s1 => ⟨true, rfl, iteF ?_⟩⟩
    have hs1 : SqL g.K H1 a xs ∨ SqT g.K H1 a xs := hs.imp (fun z => s1.seq z) fun z => Same.tup s1 z
    have hl1 : LenV g.K (.ref a) H1 xs.length := hs1.imp (fun z => ⟨_, z, rfl⟩) fun z => ⟨_, z, rfl⟩
    refine ⟨_, rfl, _, _, rfl, hl1, _, _, rfl, rfl, _, rfl, ?_⟩
    have bad : ∀ D σ, ¬ (1 ≤ xs.length ∧ xs.length ≤ 24) → tRaiseX g.cBadSteps "at" E (tCons (tUn rNeg (tC (.int 1))) tNil) D σ H1 := fun D σ n => by
      rcases alt with ⟨_, ra⟩ | ⟨y, _⟩
      · exact raiseX s1 ra fun Q q => ⟨1, rfl, q⟩
      · exact absurd y n
    refine ite2 (fun c => ?_) (fun c => ?_)
    · have c1 : (1 : Int) ≤ (xs.length : Int) := of_decide_eq_true c
      refine ⟨_, _, rfl, rfl, _, rfl, ?_⟩
      show if (!decide ((xs.length : Int) ≤ 24)) = true then _ else _
      by_cases c2 : (xs.length : Int) ≤ 24
      · rw [decide_eq_true c2]
        refine iteF ?_
        rcases alt with ⟨n, _⟩ | ⟨y, its, hits, hbad, hok⟩
        · exact absurd ⟨by omega, by omega⟩ n
        · refine ⟨by show 0 ≤ sizeLine; decide, fun l hl => ?_⟩
          have s2 : Same H (upd H1 l (.lst [])) := s1.trans (Same.new hl)
          have hl0 : H l = none := s1.free hl
          have lits := hits.length
          have turn : ∀ (i : Nat) (v : V) (T : Addr) (σ : L2.St) (H' : Hp) (D : Ends), xs[i]? = some v → (∃ (kept : List Step) (p q : Option V), σ = [some (.ref a), some (.ref l), p, q] ∧ its.take i = kept.map some ∧ (∀ s ∈ kept, okStep s) ∧ firstBad its [] 0 = firstBad (its.drop i) kept i ∧ Same H H' ∧ H' l = some (.lst (xs.take i)) ∧ StepsAt g.K H' (xs.take i) kept) → H' T = none →
              (∀ σ2 H2, (∃ (kept : List Step) (p q : Option V), σ2 = [some (.ref a), some (.ref l), p, q] ∧ its.take (i + 1) = kept.map some ∧ (∀ s ∈ kept, okStep s) ∧ firstBad its [] 0 = firstBad (its.drop (i + 1)) kept (i + 1) ∧ Same H H2 ∧ H2 l = some (.lst (xs.take (i + 1))) ∧ StepsAt g.K H2 (xs.take (i + 1)) kept) → D.nx σ2 H2) →
              gTup g.K 2 (gCons (gName 2) (gCons (gName 3) gNil)) (.ref T) σ (upd H' T (.tup [.int (i : Nat), v])) fun σ2 H2 => t_cs_turn g E D σ2 H2 := by
            rintro i v T σ H' D hv ⟨kept, p, q, rfl, hk1, hk2, hk3, sm, hl', st⟩ hT nx
            obtain ⟨o, ho, iv⟩ := paired_get hits hv
            have hlT : l ≠ T := ne_of_none hl' hT
            have smT : Same H' (upd H' T (.tup [.int (i : Nat), v])) := Same.new hT
            have drop : its.drop i = o :: its.drop (i + 1) := by
              have hi := (List.getElem?_eq_some_iff.mp ho)
              rw [List.drop_eq_getElem_cons hi.1, hi.2]
            have klen : kept.length ≤ 100 := by
              have := congrArg List.length hk1
              rw [List.length_map, List.length_take] at this
              omega
            refine ⟨T, _, rfl, SqT.of upd_same, rfl, _, _, rfl, _, _, rfl, rfl, ?_⟩
            refine cs_turn (kx := xs.take i) (kept := kept) (o := o) (r := its.drop (i + 1)) (i := i) (sm.trans smT) hl0 (smT _ _ hl') (StepsAt.mono smT st) hk2 klen (ItemV.mono (sm.trans smT) iv) (fun j hj => hbad j (by rw [hk3, drop]; exact hj)) ?_
            rintro s H2 rfl oks e sm2 hl2 st2
            refine nx _ _ ⟨kept ++ [s], _, _, rfl, ?_, ?_, ?_, sm2, ?_, ?_⟩
            · rw [List.take_add_one, ho, hk1]; simp
            · intro t ht
              rcases List.mem_append.mp ht with w | w
              · exact hk2 t w
              · rw [List.mem_singleton.mp w]; exact oks
            · rw [hk3, drop, e]
            · rw [List.take_add_one, hv]; exact hl2
            · rw [List.take_add_one, hv]; exact st2
          have fin : ∀ (σ : L2.St) (H' : Hp), (∃ (kept : List Step) (p q : Option V), σ = [some (.ref a), some (.ref l), p, q] ∧ its.take xs.length = kept.map some ∧ (∀ s ∈ kept, okStep s) ∧ firstBad its [] 0 = firstBad (its.drop xs.length) kept xs.length ∧ Same H H' ∧ H' l = some (.lst (xs.take xs.length)) ∧ StepsAt g.K H' (xs.take xs.length) kept) →
              tRet (tCB (rTupS g.K) (tCons (tVar 1) tNil)) (endsQ Q) σ H' := by
            rintro σ H' ⟨kept, p, q, rfl, hk1, hk2, hk3, sm, hl', st⟩
            rw [List.take_length] at hl'
            rw [lits, List.drop_length] at hk3
            refine ⟨_, rfl, l, xs, rfl, .inl ⟨SqL.of hl', fun t ht => ?_⟩⟩
            have nt : H t = none := sm.free ht
            exact hok hk3 t _ (Same.own sm nt) nt upd_same
          rcases hs with z | z
          · refine .inl ⟨_, rfl, a, xs, rfl, s2.seq z, for_enumL (K := g.K) (a := a) (xs := xs) (fun i σ H' => ∃ (kept : List Step) (p q : Option V), σ = [some (.ref a), some (.ref l), p, q] ∧ its.take i = kept.map some ∧ (∀ s ∈ kept, okStep s) ∧ firstBad its [] 0 = firstBad (its.drop i) kept i ∧ Same H H' ∧ H' l = some (.lst (xs.take i)) ∧ StepsAt g.K H' (xs.take i) kept)
              ⟨[], none, none, rfl, rfl, (fun s hs => by cases hs), rfl, s2, upd_same, .nil⟩ (fun i σ H' _ ⟨_, _, _, _, _, _, _, sm, _⟩ => sm.seq z) (fun i v T σ H' hv w hT => turn i v T σ H' _ hv w hT fun _ _ u => u) fin⟩
          · refine .inr ⟨_, rfl, a, xs, rfl, Same.tup s2 z, for_enumT (K := g.K) (a := a) (xs := xs) (fun i σ H' => ∃ (kept : List Step) (p q : Option V), σ = [some (.ref a), some (.ref l), p, q] ∧ its.take i = kept.map some ∧ (∀ s ∈ kept, okStep s) ∧ firstBad its [] 0 = firstBad (its.drop i) kept i ∧ Same H H' ∧ H' l = some (.lst (xs.take i)) ∧ StepsAt g.K H' (xs.take i) kept)
              ⟨[], none, none, rfl, rfl, (fun s hs => by cases hs), rfl, s2, upd_same, .nil⟩ (fun i σ H' _ ⟨_, _, _, _, _, _, _, sm, _⟩ => Same.tup sm z) (fun i v T σ H' hv w hT => turn i v T σ H' _ hv w hT fun _ _ u => u) fin⟩
      · rw [decide_eq_false c2]
        exact iteT (bad _ _ fun w => c2 (by omega))
    · have c1 : ¬ (1 : Int) ≤ (xs.length : Int) := fun w => c (decide_eq_true w)
      exact ⟨_, rfl, iteT (bad _ _ fun w => c1 (by omega))⟩
end Sd
namespace Sd
open PySem PySem.Spec PyProof.Rows L2
/-! ### ints in order, without repetitions -/
def AscI (l : List Int) : Prop := l.Pairwise (· < ·)
theorem ascI_ext : ∀ {l m : List Int}, AscI l → AscI m → (∀ y, y ∈ l ↔ y ∈ m) → l = m
  | [], [], _, _, _ => rfl
  | [], b :: m, _, _, h => absurd ((h b).mpr List.mem_cons_self) (by simp)
  | a :: l, [], _, _, h => absurd ((h a).mp List.mem_cons_self) (by simp)
  | a :: l, b :: m, hl, hm, h => by
    have l1 := List.pairwise_cons.mp hl
    have m1 := List.pairwise_cons.mp hm
    have e : a = b := by
      rcases List.mem_cons.mp ((h a).mp List.mem_cons_self) with e | e
      · exact e
      · rcases List.mem_cons.mp ((h b).mpr List.mem_cons_self) with f | f
        · exact f.symm
        · have := l1.1 b f
          have := m1.1 a e
          omega
    subst e
    refine congrArg (a :: ·) (ascI_ext l1.2 m1.2 fun y => ⟨fun hy => ?_, fun hy => ?_⟩)
    · rcases List.mem_cons.mp ((h y).mp (List.mem_cons_of_mem _ hy)) with e | e
      · have := l1.1 y hy; omega
      · exact e
    · rcases List.mem_cons.mp ((h y).mpr (List.mem_cons_of_mem _ hy)) with e | e
      · have := m1.1 y hy; omega
      · exact e
theorem ascI_of : ∀ {l : List Int}, l.Pairwise (· ≤ ·) → l.Nodup → AscI l
  | [], _, _ => List.Pairwise.nil
  | a :: l, h, nd => by
    have h1 := List.pairwise_cons.mp h
    have n1 := List.nodup_cons.mp nd
    refine List.pairwise_cons.mpr ⟨fun y hy => ?_, ascI_of h1.2 n1.2⟩
    have := h1.1 y hy
    have : a ≠ y := fun e => n1.1 (e ▸ hy)
    omega
theorem ascI_nodup {l : List Int} (h : AscI l) : l.Nodup := by
  refine List.Pairwise.imp ?_ h
  intro a b k e
  omega
theorem nodup_leG {α : Type} [DecidableEq α] : ∀ (l D : List α), l.Nodup → (∀ x ∈ l, x ∈ D) → l.length ≤ D.length
  | [], _, _, _ => Nat.zero_le _
  | a :: l, D, nd, h => by
    have h1 := List.nodup_cons.mp nd
    have ih := nodup_leG l (D.erase a) h1.2 fun x hx => (List.mem_erase_of_ne (fun e => h1.1 (by rw [← e]; exact hx))).mpr (h x (List.mem_cons_of_mem _ hx))
    have ha := h a List.mem_cons_self
    have := List.length_erase_of_mem ha
    have := List.length_pos_of_mem ha
    rw [List.length_cons]
    omega
def insI (z : Int) : List Int → List Int
  | [] => [z]
  | x :: r => if z = x then x :: r else if z < x then z :: x :: r else x :: insI z r
def uniqI : List Int → List Int
  | [] => []
  | z :: r => insI z (uniqI r)
theorem mem_insI {z y : Int} : ∀ {l : List Int}, y ∈ insI z l ↔ y = z ∨ y ∈ l
  | [] => by simp [insI]
  | x :: r => by
    unfold insI
    split
    · rename_i e; subst e; simp
    · split
      · simp
      · rw [List.mem_cons, mem_insI, List.mem_cons]
        constructor
        · rintro (h | h | h)
          · exact .inr (.inl h)
          · exact .inl h
          · exact .inr (.inr h)
        · rintro (h | h | h)
          · exact .inr (.inl h)
          · exact .inl h
          · exact .inr (.inr h)
theorem mem_uniqI {y : Int} : ∀ {l : List Int}, y ∈ uniqI l ↔ y ∈ l
  | [] => Iff.rfl
  | z :: r => by rw [uniqI, mem_insI, mem_uniqI, List.mem_cons]
theorem asc_insI {z : Int} : ∀ {l : List Int}, AscI l → AscI (insI z l)
  | [], _ => List.pairwise_singleton _ _
  | x :: r, h => by
    have h1 := List.pairwise_cons.mp h
    unfold insI
    split
    · exact h
    · split
      · rename_i lt
        refine List.pairwise_cons.mpr ⟨fun y hy => ?_, h⟩
        rcases List.mem_cons.mp hy with e | hy
        · rw [e]; exact lt
        · have := h1.1 y hy; omega
      · refine List.pairwise_cons.mpr ⟨fun y hy => ?_, asc_insI h1.2⟩
        rcases mem_insI.mp hy with e | hy
        · omega
        · exact h1.1 y hy
theorem asc_uniqI : ∀ l : List Int, AscI (uniqI l)
  | [] => List.Pairwise.nil
  | z :: r => asc_insI (asc_uniqI r)
/-! ### the states that steps lead to -/
inductive Reach (L : List Step) (s0 : Int) : Int → Prop
  | base : Reach L s0 s0
  | step {x y : Int} {w : Str} : Reach L s0 x → (x, w, y) ∈ L → Reach L s0 y
open Classical in
noncomputable def reachL (L : List Step) (s0 : Int) : List Int := (uniqI (s0 :: L.map (·.2.2))).filter fun x => decide (Reach L s0 x)
theorem reach_cand {L : List Step} {s0 x : Int} (h : Reach L s0 x) : x ∈ s0 :: L.map (·.2.2) := by
  cases h with
  | base => exact List.mem_cons_self
  | step _ m => exact List.mem_cons_of_mem _ (List.mem_map.mpr ⟨_, m, rfl⟩)
open Classical in
theorem mem_reachL {L : List Step} {s0 x : Int} : x ∈ reachL L s0 ↔ Reach L s0 x := by
  unfold reachL
  rw [List.mem_filter, mem_uniqI, decide_eq_true_eq]
  exact ⟨fun h => h.2, fun h => ⟨reach_cand h, h⟩⟩
theorem asc_reachL (L : List Step) (s0 : Int) : AscI (reachL L s0) := List.Pairwise.filter _ (asc_uniqI _)
theorem reachL_eq {L : List Step} {s0 : Int} {ns : List Int} (h : AscI ns) (hm : ∀ x, x ∈ ns ↔ Reach L s0 x) : ns = reachL L s0 := ascI_ext h (asc_reachL L s0) fun y => (hm y).trans mem_reachL.symm
def sp_reached_states (g : Ga) : Sp := fun vs H Q _ => ∃ (s0 : Int) (a : Addr) (xs : List V) (L : List Step), vs = [.int s0, .ref a] ∧ SqT g.K H a xs ∧ StepsAt g.K H xs L ∧ L.length ≤ 100 ∧ ∀ p H', Same H H' → H p = none → H' p = some (.tup ((reachL L s0).map V.int)) → Q (.ref p) H'
def t_reached_states (g : Ga) : TS := (tSeq (tAsg (tLst (tCons (tVar 0) tNil)) (gName 2)) (tSeq (tAsg (tC (.int 0)) (gName 3)) (tSeq (tWhile (tTest (tOp rLt (tVar 3) (tCB (rLenS g.K) (tCons (tVar 2) tNil)))) (tSeq (tFor (iTup g.K (tVar 1)) (gName 4) (tIfS (tAnd (tTest (tOp rEq (tOp (rIxT g.K) (tVar 4) (tC (.int 0))) (tOp (rIxL g.K) (tVar 2) (tVar 3)))) (tTest (tOp (rIn g.K true) (tOp (rIxT g.K) (tVar 4) (tC (.int 2))) (tVar 2)))) (tDrop (tBM g.K "list" rApp (tVar 2) (tCons (tOp (rIxT g.K) (tVar 4) (tC (.int 2))) tNil))) tNext)) (tAug 3 (tC (.int 1)) (ipI fun i j => i + j)))) (tRet (tCB (rTupS g.K) (tCons (tCB (rSortedI g.K) (tCons (tVar 2) tNil)) tNil))))))
theorem inV_int (v : Int) : ∀ L : List Int, inV (.int v) (L.map V.int) = decide (v ∈ L)
  | [] => by simp [inV]
  | a :: L => by
    have ih := inV_int v L
    have e : eqV (.int a) (.int v) = decide (a = v) := by
      unfold eqV
      by_cases h : a = v
      · subst h; simp
      · simp [h]
    unfold inV at ih ⊢
    rw [List.map_cons, List.any_cons, e, ih]
    by_cases h : a = v
    · subst h; simp
    · have h2 : ¬ v = a := fun z => h z.symm
      simp [h, h2]
theorem int_flat (L : List Int) : (L.map V.int).all flatV = true := by
  rw [List.all_map, List.all_eq_true]; intro x _; rfl
/-- what the search keeps -/
structure Fnd (L : List Step) (s0 : Int) (ns : List Int) : Prop where
  nd : ns.Nodup
  st : s0 ∈ ns
  re : ∀ x ∈ ns, Reach L s0 x
theorem Fnd.len {L : List Step} {s0 : Int} {ns : List Int} (h : Fnd L s0 ns) : ns.length ≤ L.length + 1 := by
  have := nodup_leG ns (s0 :: L.map (·.2.2)) h.nd fun x hx => reach_cand (h.re x hx)
  rw [List.length_cons, List.length_map] at this
  exact this
theorem Fnd.add {L : List Step} {s0 : Int} {ns : List Int} (h : Fnd L s0 ns) {x y : Int} {w : Str} (hx : x ∈ ns) (hs : (x, w, y) ∈ L) (hy : y ∉ ns) : Fnd L s0 (ns ++ [y]) := by
  refine ⟨?_, List.mem_append_left _ h.st, fun z hz => ?_⟩
  · rw [List.nodup_append]
    exact ⟨h.nd, by simp, fun a ha b hb e => hy (by rw [List.mem_singleton] at hb; rw [← hb, ← e]; exact ha)⟩
  · rcases List.mem_append.mp hz with z | z
    · exact h.re _ z
    · rw [List.mem_singleton.mp z]; exact .step (h.re x hx) hs
theorem Fnd.all {L : List Step} {s0 : Int} {ns : List Int} (h : Fnd L s0 ns) (cl : ∀ s ∈ L, s.1 ∈ ns → s.2.2 ∈ ns) : ∀ x, x ∈ ns ↔ Reach L s0 x := fun x => ⟨h.re x, fun r => by
  induction r with
  | base => exact h.st
  | step _ m ih => exact cl _ m ih⟩
theorem pure_reached_states {g : Ga} {vs : List V} {H : Hp} {Q : VK} {E : XK} (h : sp_reached_states g vs H Q E) : t_reached_states g (endsQ Q) (L2.start ["start", "steps", "found", "at", "step"] vs) H := by
  obtain ⟨s0, a, xs, L, rfl, hs, hL, few, q⟩ := h
  have lx := hL.length
  refine ⟨_, rfl, by show 1 ≤ sizeLine; decide, fun l hl => ?_⟩
  refine while_by (fun σ H' => ∃ (ns : List Int) (i : Nat) (p : Option V), σ = [some (.int s0), some (.ref a), some (.ref l), some (.int i), p] ∧ Same H H' ∧ H' l = some (.lst (ns.map V.int)) ∧ Fnd L s0 ns ∧ i ≤ ns.length ∧ (∀ s ∈ L, ∀ j, j < i → ns[j]? = some s.1 → s.2.2 ∈ ns))
    (fun σ _ => match σ with | [_, _, _, some (.int i), _] => L.length + 2 - i.toNat | _ => 0) ⟨[s0], 0, none, rfl, Same.new hl, upd_same, ⟨by simp, by simp, fun x hx => by rw [List.mem_singleton.mp hx]; exact .base⟩, Nat.zero_le _, fun s _ j hj => by omega⟩ ?_ ?_
  · rintro σ H1 ⟨ns, i, p, rfl, sm, hl1, fd, hi, cl⟩
    refine ⟨_, rfl, _, rfl, l, _, rfl, .inl (SqL.of hl1), _, _, rfl, rfl, _, rfl, ?_⟩
    rw [List.length_map]
    refine ite2 (fun c => ?_) (fun c => ?_)
    · have c1 : (i : Int) < (ns.length : Int) := of_decide_eq_true c
      have ilt : i < ns.length := by omega
      have hns : ns[i]? = some ns[i] := List.getElem?_eq_getElem ilt
      generalize hcur : ns[i] = cur at hns
      have curIn : cur ∈ ns := List.mem_of_getElem? hns
      refine ⟨_, rfl, a, rfl, ⟨_, Same.tup sm hs⟩, for_tup (K := g.K) (a := a) (xs := xs) (fun k σ H' => ∃ (ms : List Int) (p : Option V), σ = [some (.int s0), some (.ref a), some (.ref l), some (.int i), p] ∧ Same H H' ∧ H' l = some (.lst ((ns ++ ms).map V.int)) ∧ Fnd L s0 (ns ++ ms) ∧ (∀ s ∈ L.take k, s.1 = cur → s.2.2 ∈ ns ++ ms))
        ⟨[], p, rfl, sm, by rw [List.append_nil]; exact hl1, by rw [List.append_nil]; exact fd, fun s hs => by simp at hs⟩ (fun k σ H' _ ⟨_, _, _, sm', _⟩ => Same.tup sm' hs) ?_ ?_⟩
      · rintro k v σ H' hv ⟨ms, p', rfl, sm', hl', fd', cl'⟩
        obtain ⟨s, hs1, b, rfl, st⟩ := paired_get hL hv
        have sL : s ∈ L := List.mem_of_getElem? hs1
        have st' := Same.tup sm' st
        have at1 : ((ns ++ ms).map V.int)[i]? = some (.int cur) := by
          rw [List.getElem?_map, List.getElem?_append_left ilt, hns]; rfl
        refine ⟨_, rfl, b, _, _, .int s.1, rfl, rfl, st', rfl, _, rfl, _, rfl, l, _, _, .int cur, rfl, rfl, SqL.of hl', atI_nat at1, rfl, _, rfl, ?_⟩
        have take : ∀ t ∈ L.take (k + 1), t ∈ L.take k ∨ t = s := fun t ht => by
          rw [List.take_add_one, hs1, Option.toList_some] at ht
          rcases List.mem_append.mp ht with w | w
          · exact .inl w
          · exact .inr (List.mem_singleton.mp w)
        by_cases h1 : s.1 = cur
        · have e : decide (V.int s.1 = V.int cur) = true := decide_eq_true (by rw [h1])
          rw [e]
          refine iteT ⟨_, rfl, b, _, _, .int s.2.2, rfl, rfl, st', rfl, _, rfl, l, _, rfl, .inl (SqL.of hl'), rfl, int_flat _, _, rfl, ?_⟩
          rw [if_pos rfl, inV_int]
          by_cases h2 : s.2.2 ∈ ns ++ ms
          · rw [decide_eq_true h2]
            refine iteF ⟨ms, _, rfl, sm', hl', fd', fun t ht e => ?_⟩
            rcases take t ht with w | w
            · exact cl' t w e
            · rw [w]; exact h2
          · rw [decide_eq_false h2]
            refine iteT ⟨_, rfl, .inl ⟨rfl, _, SqL.of hl'⟩, _, rfl, b, _, _, .int s.2.2, rfl, rfl, st', rfl, l, _, _, rfl, rfl, hl', ?_, ?_⟩
            · rw [List.length_map]
              have := fd'.len
              exact small1000 (by omega)
            · have fd2 : Fnd L s0 ((ns ++ ms) ++ [s.2.2]) := fd'.add (x := cur) (w := s.2.1) (List.mem_append_left _ curIn) (by rw [← h1]; exact sL) h2
              refine ⟨ms ++ [s.2.2], _, rfl, Same.own sm' hl, ?_, by rw [← List.append_assoc]; exact fd2, fun t ht e => ?_⟩
              · rw [upd_same, ← List.append_assoc, List.map_append (l₁ := ns ++ ms)]; rfl
              · rw [← List.append_assoc]
                rcases take t ht with w | w
                · exact List.mem_append_left _ (cl' t w e)
                · rw [w]; exact List.mem_append_right _ List.mem_cons_self
        · have e : decide (V.int s.1 = V.int cur) = false := decide_eq_false fun z => h1 (by injection z)
          rw [e]
          refine iteF ⟨ms, _, rfl, sm', hl', fd', fun t ht e => ?_⟩
          rcases take t ht with w | w
          · exact cl' t w e
          · rw [w] at e; exact absurd e h1
      · rintro σ H' ⟨ms, p', rfl, sm', hl', fd', cl'⟩
        rw [lx, List.take_length] at cl'
        refine ⟨_, rfl, _, _, rfl, rfl, ?_⟩
        refine ⟨⟨ns ++ ms, i + 1, p', rfl, sm', hl', fd', by rw [List.length_append]; omega, fun s sL j hj hj2 => ?_⟩, ?_⟩
        · by_cases hji : j = i
          · subst hji
            rw [List.getElem?_append_left ilt, hns] at hj2
            exact cl' s sL (Option.some.inj hj2).symm
          · have hlt : j < ns.length := by omega
            rw [List.getElem?_append_left hlt] at hj2
            exact List.mem_append_left _ (cl s sL j (by omega) hj2)
        · show L.length + 2 - ((i : Int) + 1).toNat < L.length + 2 - (i : Int).toNat
          have := fd.len
          omega
    · have c1 : i = ns.length := by
        have : ¬ (i : Int) < (ns.length : Int) := fun z => c (decide_eq_true z)
        omega
      subst c1
      refine ⟨_, rfl, l, ns, rfl, SqL.of hl1, fun ns' r pm pw hr => ?_⟩
      have nr : H r = none := sm.free hr
      have e : ns' = reachL L s0 := reachL_eq (ascI_of pw (pm.nodup_iff.mpr fd.nd)) fun x => (pm.mem_iff).trans (fd.all (fun s sL h => by
        obtain ⟨j, hj, e⟩ := List.mem_iff_getElem.mp h
        exact cl s sL j hj (by rw [List.getElem?_eq_getElem hj, e])) x)
      subst e
      refine ⟨r, _, rfl, .inl ⟨SqL.of upd_same, fun t ht => ?_⟩⟩
      have s2 : Same H (upd H1 r (.lst ((reachL L s0).map V.int))) := Same.own sm nr
      have nt : H t = none := s2.free ht
      exact q t _ (Same.own s2 nt) nt upd_same
  · intro σ H' Q1 Q2 hQ hc
    obtain ⟨v, hv, u, hu, p, ys, e1, e2, i, j, hi, hj, k, hk, qq⟩ := hc
    exact ⟨v, hv, u, hu, p, ys, e1, e2, i, j, hi, hj, k, hk, hQ _ _ qq⟩
end Sd
namespace Sd
open PySem PySem.Spec PyProof.Rows L2
/-! ### {.. for x in a tuple} -/
theorem sc_tupT {w : World} {K : PySem.W.Frag} {a : Addr} {xs : List V} {g : TG} {tt : TT} {te : TE} {vs : List Nat} {σ : L2.St} {H1 : Hp} {D : Addr} {Q : VK} (Pv : Nat → Hp → Prop) (h0 : Pv 0 H1) (hl : ∀ i H, i ≤ xs.length → Pv i H → SqT K H a xs)
    (hs : ∀ i x H, xs[i]? = some x → Pv i H → g x (wipe σ vs) H fun σ2 H2 => wipe σ2 vs = wipe σ vs ∧ tt σ2 H2 fun b H3 => if b = true then te σ2 H3 fun y H4 => ∃ (z : Str) (ks : List Str), y = .str z ∧ H4 D = some (TxO w D ks) ∧ ks.length + 1 < scanBound ∧ Pv (i + 1) (upd H4 D (TxO w D (addT ks z))) else Pv (i + 1) H3)
    (hd : ∀ H, Pv xs.length H → Q (.ref D) H) : goT w g tt te vs σ Q (Itt K a) D H1 := by
  refine ⟨fun i m H => m = xs.length - i ∧ i ≤ xs.length ∧ Pv i H, ⟨xs.length, by simp, Nat.zero_le _, h0⟩, ?_⟩
  rintro i m H ⟨rfl, hi, p⟩
  have q := hl i H hi p
  by_cases hlt : i < xs.length
  · refine .inr ⟨⟨xs, xs[i], q, by simp [hlt]⟩, Pv (i + 1), fun H' p' => ⟨xs.length - (i + 1), by omega, rfl, hlt, p'⟩, fun x H' y => ?_⟩
    obtain ⟨e, y⟩ := y
    subst e
    exact hs i x _ (y xs q) p
  · have e : i = xs.length := by omega
    subst e
    exact .inl ⟨⟨xs, q, Nat.le_refl _⟩, hd H p⟩
/-! ### a hand -/
def wordsOf (L : List Step) : List Str := uniq (L.map (·.2.1))
def handF (s0 : Int) (p q r : Addr) : List (Str × V) := [("start", .int s0), ("steps", .ref p), ("words", .ref q), ("states", .ref r)]
structure HandAt (g : Ga) (H : Hp) (x : Addr) (s0 : Int) (L : List Step) : Prop where
  ex : ∃ (dx p q r : Addr) (xs : List V), H x = some (.ins g.cHand dx (handF s0 p q r)) ∧ SqT g.K H p xs ∧ StepsAt g.K H xs L ∧ SqT g.K H q ((wordsOf L).map V.str) ∧ SqT g.K H r ((reachL L s0).map V.int)
theorem HandAt.mono {g : Ga} {H H' : Hp} {x : Addr} {s0 : Int} {L : List Step} (s : Same H H') (h : HandAt g H x s0 L) : HandAt g H' x s0 L := by
  obtain ⟨dx, p, q, r, xs, h1, h2, h3, h4, h5⟩ := h.ex
  exact ⟨dx, p, q, r, xs, s _ _ h1, Same.tup s h2, StepsAt.mono s h3, Same.tup s h4, Same.tup s h5⟩
theorem putF_new {f : Str} {v : V} : ∀ {fs : List (Str × V)}, (∀ p ∈ fs, p.1 ≠ f) → putF f v fs = fs ++ [(f, v)]
  | [], _ => rfl
  | (k, x) :: r, h => by
    have h1 : k ≠ f := h (k, x) List.mem_cons_self
    have ih := putF_new (v := v) fun p hp => h p (List.mem_cons_of_mem _ hp)
    unfold putF
    rw [if_neg h1, ih]; rfl
theorem putF_len (f : Str) (v : V) : ∀ fs : List (Str × V), (putF f v fs).length ≤ fs.length + 1
  | [] => Nat.le_refl _
  | (k, x) :: r => by
    unfold putF
    split
    · exact Nat.le_succ _
    · exact Nat.succ_le_succ (putF_len f v r)
theorem putF_hand (s0 : Int) (p q r : Addr) : putF "states" (.ref r) (putF "words" (.ref q) (putF "steps" (.ref p) (putF "start" (.int s0) []))) = handF s0 p q r := by
  have e1 : putF "steps" (.ref p) (putF "start" (.int s0) []) = ([("start", V.int s0), ("steps", V.ref p)] : List (Str × V)) := putF_new (fs := [(("start" : Str), V.int s0)]) (by simp; decide +kernel)
  have e2 : putF "words" (.ref q) ([("start", V.int s0), ("steps", V.ref p)] : List (Str × V)) = ([("start", V.int s0), ("steps", V.ref p), ("words", V.ref q)] : List (Str × V)) := putF_new (by simp; decide +kernel)
  rw [e1, e2]
  exact putF_new (by simp; decide +kernel)
structure HandC (g : Ga) : Prop where
  cl : Cls g.K g.cHand
  n1 : NoAttr g.K g.cHand "start"
  n2 : NoAttr g.K g.cHand "steps"
  n3 : NoAttr g.K g.cHand "words"
  n4 : NoAttr g.K g.cHand "states"
def sp_Hand_init (g : Ga) : Sp := fun vs H Q E => ∃ (x dx : Addr) (v w : V), vs = [.ref x, v, w] ∧ H x = some (.ins g.cHand dx []) ∧
  ((StateV g.K H v false ∧ RaisesX E g.cBadState "value" v H) ∨ ∃ s0 : Int, v = .int s0 ∧ (0 ≤ s0 ∧ s0 ≤ 99) ∧
    ((RowV g.K H w false ∧ RaisesX E g.cBadSteps "at" (.int (-1)) H) ∨
      ∃ xs : List V, seqOf g.K H w xs ∧ ((¬ (1 ≤ xs.length ∧ xs.length ≤ 24) ∧ RaisesX E g.cBadSteps "at" (.int (-1)) H) ∨
        ((1 ≤ xs.length ∧ xs.length ≤ 24) ∧ ∃ its : List (Option Step), Paired (ItemV g.K H) xs its ∧ (∀ i : Nat, firstBad its [] 0 = some i → RaisesX E g.cBadSteps "at" (.int i) H) ∧
          (firstBad its [] 0 = none → ∀ L : List Step, its = L.map some → (8 < (wordsOf L).length ∨ 8 < (reachL L s0).length → RaisesX E g.cTooMany "limit" (.int 8) H) ∧
            ((wordsOf L).length ≤ 8 → (reachL L s0).length ≤ 8 → ∀ H', Ch [x] H H' → HandAt g H' x s0 L → Q .non H'))))))
theorem firstBad_none : ∀ {its : List (Option Step)} {kept : List Step} {i : Nat}, firstBad its kept i = none → ∃ L : List Step, its = L.map some
  | [], _, _, _ => ⟨[], rfl⟩
  | none :: r, _, _, h => by simp [firstBad] at h
  | some s :: r, kept, i, h => by
    unfold firstBad at h
    split at h
    · cases h
    · split at h
      · cases h
      · obtain ⟨L, e⟩ := firstBad_none h
        exact ⟨s :: L, by rw [e]; rfl⟩
theorem items_steps {K : PySem.W.Frag} {H : Hp} : ∀ {xs : List V} {L : List Step}, Paired (ItemV K H) xs (L.map some) → StepsAt K H xs L ∧ ∀ s ∈ L, okStep s
  | _, [], h => by cases h; exact ⟨.nil, fun s hs => by cases hs⟩
  | _, s :: L, h => by
    cases h with
    | cons a b =>
      obtain ⟨c, d⟩ := items_steps b
      exact ⟨.cons a.1 c, fun t ht => by
        rcases List.mem_cons.mp ht with e | e
        · rw [e]; exact a.2
        · exact d t e⟩
def t_Hand_init (g : Ga) (E : XK) : TS := (tSeq (tIfS (tNot (tB (tCall (sp_is_state g) [] E0 (tCons (tVar 1) tNil)))) (tRaiseX g.cBadState "value" E (tCons (tVar 1) tNil)) tNext) (tSeq (tAsg (tCall (sp_checked_steps g) [] E (tCons (tVar 2) tNil)) (gName 3)) (tSeq (tAsg (tCB (rTupS g.K) (tCons (tCB (rSortX g.w) (tCons (tScT g.w (iTup g.K (tVar 3)) (gName 6) tYes (tOp (rIxT g.K) (tVar 6) (tC (.int 1))) [6]) tNil)) tNil)) (gName 4)) (tSeq (tIfS (tTest (tOp rGt (tCB (rLenS g.K) (tCons (tVar 4) tNil)) (tC (.int 8)))) (tRaiseX g.cTooMany "limit" E (tCons (tC (.int 8)) tNil)) tNext) (tSeq (tAsg (tCall (sp_reached_states g) [] E0 (tCons (tVar 1) (tCons (tVar 3) tNil))) (gName 5)) (tSeq (tIfS (tTest (tOp rGt (tCB (rLenS g.K) (tCons (tVar 5) tNil)) (tC (.int 8)))) (tRaiseX g.cTooMany "limit" E (tCons (tC (.int 8)) tNil)) tNext) (tSeq (sFld g.K (tVar 0) (tVar 1) "start") (tSeq (sFld g.K (tVar 0) (tVar 3) "steps") (tSeq (sFld g.K (tVar 0) (tVar 4) "words") (sFld g.K (tVar 0) (tVar 5) "states"))))))))))
/-- the words of the steps at p -/
theorem words_set {g : Ga} {σ : L2.St} {H : Hp} {Q : VK} {p : Addr} {xs : List V} {L : List Step} (hσ : σ[3]? = some (some (.ref p))) (h6 : σ.length = 7) (hs : SqT g.K H p xs) (hL : StepsAt g.K H xs L) (few : L.length ≤ 100)
    (q : ∀ t H', Same H H' → H t = none → H' t = some (.tup ((wordsOf L).map V.str)) → Q (.ref t) H') :
    tCB (rTupS g.K) (tCons (tCB (rSortX g.w) (tCons (tScT g.w (iTup g.K (tVar 3)) (gName 6) tYes (tOp (rIxT g.K) (tVar 6) (tC (.int 1))) [6]) tNil)) tNil) σ H Q := by
  have lx := hL.length
  refine ⟨_, hσ, p, rfl, ⟨_, hs⟩, fun D hD => ?_⟩
  refine sc_tupT (K := g.K) (a := p) (xs := xs) (fun i H' => Same H H' ∧ H' D = some (TxO g.w D (allT ((L.take i).map (·.2.1))))) ⟨Same.new hD, upd_same⟩ (fun i H' _ z => Same.tup z.1 hs) ?_ ?_
  · rintro i x H' hx ⟨sm, hD'⟩
    obtain ⟨s, hs1, b, rfl, st⟩ := paired_get hL hx
    have w6 : ∀ v : Option V, ((wipe σ [6]).set 6 v)[6]? = some v := fun v => by
      rw [List.getElem?_set_self]
      rw [wipe_length]; omega
    refine ⟨?_, ?_⟩
    · show wipe ((wipe σ [6]).set 6 (some (V.ref b))) [6] = wipe σ [6]
      show ((σ.set 6 none).set 6 (some (V.ref b))).set 6 none = σ.set 6 none
      rw [List.set_set, List.set_set]
    · refine ⟨_, w6 _, b, _, _, .str s.2.1, rfl, rfl, Same.tup sm st, rfl, s.2.1, _, rfl, hD', ?_, ?_⟩
      · have h1 := len_allT ((L.take i).map (·.2.1))
        rw [List.length_map, List.length_take] at h1
        unfold scanBound; omega
      · refine ⟨Same.own sm hD, ?_⟩
        rw [upd_same, List.take_add_one, hs1, Option.toList_some, List.map_append]
        rw [show List.map (fun x : Step => x.2.1) [s] = [s.2.1] from rfl, allT_snoc]
  · rintro H' ⟨sm, hD'⟩
    rw [lx, List.take_length] at hD'
    refine ⟨D, _, rfl, hD', fun t ht => ?_⟩
    rw [uniq_allT]
    have nt : H t = none := sm.free ht
    refine ⟨t, _, rfl, .inl ⟨SqL.of upd_same, fun u hu => ?_⟩⟩
    have s2 : Same H (upd H' t (.lst ((wordsOf L).map V.str))) := Same.own sm nt
    have nu : H u = none := s2.free hu
    exact q u _ (Same.own s2 nu) nu upd_same
theorem pure_Hand_init {g : Ga} {vs : List V} {H : Hp} {Q : VK} {E : XK} (T : HandC g) (h : sp_Hand_init g vs H Q E) : t_Hand_init g E (endsQ Q) (L2.start ["self", "start", "steps", "kept", "words", "states", "step"] vs) H := by
  obtain ⟨x, dx, v, w, rfl, hx, ⟨no, ra⟩ | ⟨s0, rfl, hs0, alt⟩⟩ := h
  · exact ⟨_, rfl, v, false, rfl, no, false, rfl, iteT (raiseX (Same.refl H) ra fun Q q => ⟨_, rfl, q⟩)⟩
  · refine ⟨_, rfl, _, true, rfl, .inl ⟨s0, rfl, (decide_eq_true hs0).symm⟩, true, rfl, iteF ?_⟩
    refine ⟨_, rfl, w, rfl, ?_⟩
    rcases alt with ⟨no, ra⟩ | ⟨xs, hw, ⟨bad, ra⟩ | ⟨good, its, hits, hbad, hok⟩⟩
    · exact .inl ⟨no, ra⟩
    · exact .inr ⟨xs, hw, .inl ⟨bad, ra⟩⟩
    · refine .inr ⟨xs, hw, .inr ⟨good, its, hits, hbad, fun nb p H1 s1 np hp => ?_⟩⟩
      obtain ⟨L, rfl⟩ := firstBad_none nb
      obtain ⟨hmany, hok⟩ := hok nb L rfl
      obtain ⟨hL, okL⟩ := items_steps hits
      have lx := hL.length
      have hL1 : StepsAt g.K H1 xs L := StepsAt.mono s1 hL
      -- words
      refine words_set (p := p) (xs := xs) (L := L) rfl rfl (SqT.of hp) hL1 (by omega) fun q H2 s2 nq hq => ?_
      have s02 := s1.trans s2
      refine ⟨_, rfl, q, _, rfl, .inr (SqT.of hq), _, _, rfl, rfl, _, rfl, ?_⟩
      rw [List.length_map]
      by_cases c8 : (8 : Int) < ((wordsOf L).length : Int)
      · rw [decide_eq_true c8]
        exact iteT (raiseX s02 (hmany (.inl (by omega))) fun Q q => q)
      · rw [decide_eq_false c8]
        refine iteF ?_
        refine ⟨_, rfl, _, rfl, s0, p, xs, L, rfl, SqT.of (s2 _ _ hp), StepsAt.mono s2 hL1, by omega, fun r H3 s3 nr hr => ?_⟩
        have s03 := s02.trans s3
        refine ⟨_, rfl, r, _, rfl, .inr (SqT.of hr), _, _, rfl, rfl, _, rfl, ?_⟩
        rw [List.length_map]
        by_cases d8 : (8 : Int) < ((reachL L s0).length : Int)
        · rw [decide_eq_true d8]
          exact iteT (raiseX s03 (hmany (.inr (by omega))) fun Q q => q)
        · rw [decide_eq_false d8]
          refine iteF ?_
          have hx3 := s03 _ _ hx
          refine ⟨_, rfl, _, rfl, x, _, dx, _, rfl, hx3, T.cl, T.n1, (by show 0 < 1000; decide), ?_⟩
          refine ⟨_, rfl, _, rfl, x, _, dx, _, rfl, upd_same, T.cl, T.n2, (by show 1 < 1000; decide), ?_⟩
          rw [upd_upd]
          refine ⟨_, rfl, _, rfl, x, _, dx, _, rfl, upd_same, T.cl, T.n3, ?_, ?_⟩
          · have h1 := putF_len "steps" (.ref p) (putF "start" (.int s0) [])
            have h2 := putF_len "start" (.int s0) []
            have h3 : ([] : List (Str × V)).length = 0 := rfl
            omega
          rw [upd_upd]
          refine ⟨_, rfl, _, rfl, x, _, dx, _, rfl, upd_same, T.cl, T.n4, ?_, ?_⟩
          · have h0 := putF_len "words" (.ref q) (putF "steps" (.ref p) (putF "start" (.int s0) []))
            have h1 := putF_len "steps" (.ref p) (putF "start" (.int s0) [])
            have h2 := putF_len "start" (.int s0) []
            have h3 : ([] : List (Str × V)).length = 0 := rfl
            omega
          rw [upd_upd]
          have chx : Ch [x] H (upd H3 x (.ins g.cHand dx (putF "states" (.ref r) (putF "words" (.ref q) (putF "steps" (.ref p) (putF "start" (.int s0) [])))))) := (Ch.same s03).at (by simp)
          have keepT : ∀ b ys, SqT g.K H3 b ys → SqT g.K (upd H3 x (.ins g.cHand dx (putF "states" (.ref r) (putF "words" (.ref q) (putF "steps" (.ref p) (putF "start" (.int s0) [])))))) b ys := fun b ys h => by
            rcases h with (h | ⟨o, h⟩) | h
            · refine .inl (.inl ?_); rw [upd_ne (ne_of h hx3 (by intro z; cases z))]; exact h
            · refine .inl (.inr ⟨o, ?_⟩); rw [upd_ne (ne_of h hx3 (by intro z; cases z))]; exact h
            · exact .inr h
          refine hok (by omega) (by omega) _ chx ⟨dx, p, q, r, xs, ?_, keepT _ _ (Same.tup s3 (SqT.of (s2 _ _ hp))), paired_mono (fun u t ⟨b, e, z⟩ => ⟨b, e, keepT b _ z⟩) (StepsAt.mono s3 (StepsAt.mono s2 hL1)), keepT _ _ (Same.tup s3 (SqT.of hq)), keepT _ _ (SqT.of hr)⟩
          rw [upd_same, putF_hand]
end Sd
namespace Sd
open PySem PySem.Spec PyProof.Rows L2
/-! ### slots in a comprehension's block -/
theorem blk_set {σ : L2.St} {c : Nat} (x : Option V) (hc : c < σ.length) : wipe ((wipe σ [c]).set c x) [c] = wipe σ [c] := by
  show ((σ.set c none).set c x).set c none = σ.set c none
  rw [List.set_set, List.set_set]
theorem blk_own {σ : L2.St} {c : Nat} (x : Option V) (hc : c < σ.length) : ((wipe σ [c]).set c x)[c]? = some x := by
  rw [List.getElem?_set_self]
  rw [wipe_length]; exact hc
theorem blk_out {σ : L2.St} {c i : Nat} {x : Option V} (h : i ≠ c) : ((wipe σ [c]).set c x)[i]? = σ[i]? := by
  rw [List.getElem?_set_ne (Ne.symm h)]
  show (σ.set c none)[i]? = σ[i]?
  rw [List.getElem?_set_ne (Ne.symm h)]
/-- [step for step in steps if step[0] == state] -/
theorem lc_leave {g : Ga} {σ : L2.St} {H : Hp} {Q : VK} {sl sv c : Nat} {l : Addr} {xs : List V} {L : List Step} {s : Int} (h1 : σ[sl]? = some (some (.ref l))) (h2 : σ[sv]? = some (some (.int s))) (hc : c < σ.length) (hv : sv ≠ c) (hs : SqL g.K H l xs) (hL : StepsAt g.K H xs L) (few : L.length ≤ 1000)
    (q : ∀ D ys H', Same H H' → H D = none → H' D = some (.lst ys) → ys.length = leavingN L s → Q (.ref D) H') :
    tLc (iList g.K (tVar sl)) (gName c) (tTest (tOp rEq (tOp (rIxT g.K) (tVar c) (tC (.int 0))) (tVar sv))) (tVar c) [c] σ H Q := by
  have hlen := hL.length
  refine ⟨_, h1, l, rfl, ⟨_, hs⟩, fun D hD => ?_⟩
  refine lc_list (K := g.K) (a := l) (xs := xs) (fun i H' => Same H H' ∧ ∃ ys, H' D = some (.lst ys) ∧ ys.length = leavingN (L.take i) s) ⟨Same.new hD, [], upd_same, rfl⟩ (fun i H' _ z => z.1.seq hs) ?_ ?_
  · rintro i x H' hx ⟨sm, ys, hy, hl⟩
    obtain ⟨t, ht, a, rfl, st⟩ := paired_get hL hx
    refine ⟨blk_set _ hc, ?_⟩
    have o1 : ((wipe σ [c]).set c (some (V.ref a)))[sv]? = some (some (.int s)) := by rw [blk_out hv]; exact h2
    refine ⟨_, blk_own _ hc, a, _, _, .int t.1, rfl, rfl, Same.tup sm st, rfl, _, o1, rfl, _, rfl, ?_⟩
    have ex : leavingN (L.take (i + 1)) s = leavingN (L.take i) s + if t.1 = s then 1 else 0 := by
      unfold leavingN
      rw [List.take_add_one, ht, Option.toList_some, List.filter_append, List.length_append]
      by_cases h : t.1 = s
      · simp [h]
      · simp [h]
    have lys : ys.length ≤ 1000 := by
      rw [hl]; unfold leavingN
      have h1 := List.length_filter_le (fun t : Step => decide (t.1 = s)) (L.take i)
      have h2 : (L.take i).length ≤ L.length := by rw [List.length_take]; omega
      omega
    by_cases h : t.1 = s
    · have e : decide (V.int t.1 = V.int s) = true := decide_eq_true (by rw [h])
      rw [e]
      refine iteT ⟨_, blk_own _ hc, ys, hy, small1000 lys, ?_⟩
      refine ⟨Same.own sm hD, ys ++ [.ref a], upd_same, ?_⟩
      rw [ex, if_pos h, List.length_append, hl]; rfl
    · have e : decide (V.int t.1 = V.int s) = false := decide_eq_false (fun z => h (by injection z))
      rw [e]
      refine iteF ⟨sm, ys, hy, ?_⟩
      rw [ex, if_neg h, hl]; rfl
  · rintro H' ⟨sm, ys, hy, hl⟩
    rw [hlen, List.take_length] at hl
    exact q D ys H' sm hD hy hl
theorem len_leave {g : Ga} {σ : L2.St} {H : Hp} {Q : VK} {sl sv c : Nat} {l : Addr} {xs : List V} {L : List Step} {s : Int} (h1 : σ[sl]? = some (some (.ref l))) (h2 : σ[sv]? = some (some (.int s))) (hc : c < σ.length) (hv : sv ≠ c) (hs : SqL g.K H l xs) (hL : StepsAt g.K H xs L) (few : L.length ≤ 1000)
    (q : ∀ H', Same H H' → Q (.int (leavingN L s)) H') :
    tCB (rLenS g.K) (tCons (tLc (iList g.K (tVar sl)) (gName c) (tTest (tOp rEq (tOp (rIxT g.K) (tVar c) (tC (.int 0))) (tVar sv))) (tVar c) [c]) tNil) σ H Q :=
  lc_leave (Q := fun x H1 => tNil σ H1 fun xs H2 => rLenS g.K (x :: xs) H2 Q) h1 h2 hc hv hs hL few fun D ys H' sm hD hy e => ⟨D, ys, rfl, .inl (SqL.of hy), by rw [e]; exact q H' sm⟩
theorem t_test {r : R2} {ta tb : TE} {σ : L2.St} {H : Hp} {Q : Bool → Hp → Prop} (h : ta σ H fun x H1 => tb σ H1 fun y H2 => r x y H2 fun v H3 => ∃ k, v = .bl k ∧ Q k H3) : tTest (tOp r ta tb) σ H Q := h
theorem sqL_upd {K : PySem.W.Frag} {H : Hp} {a p : Addr} {xs : List V} {o : HO} (ne : a ≠ p) (h : SqL K H a xs) : SqL K (upd H p o) a xs := by
  rcases h with (h | ⟨u, h⟩) | h
  · exact .inl (.inl (by rw [upd_ne ne]; exact h))
  · exact .inl (.inr ⟨u, by rw [upd_ne ne]; exact h⟩)
  · exact .inr h
theorem sqT_upd {K : PySem.W.Frag} {H : Hp} {a p : Addr} {xs : List V} {o u : HO} (hp : H p = some u) (nt : ∀ ys, u ≠ .tup ys) (nf : ∀ v w, u ≠ .frz v w) (h : SqT K H a xs) : SqT K (upd H p o) a xs := by
  rcases h with (h | ⟨v, h⟩) | h
  · exact .inl (.inl (by rw [upd_ne (ne_of h hp (Ne.symm (nt _)))]; exact h))
  · exact .inl (.inr ⟨v, by rw [upd_ne (ne_of h hp (Ne.symm (nf _ _)))]; exact h⟩)
  · exact .inr h
theorem pool_nt {o : HO} (h : PoolO o) : (∀ ys, o ≠ .tup ys) ∧ ∀ v w, o ≠ .frz v w := by
  obtain ⟨a, r, n, rfl, _⟩ := h
  exact ⟨(fun ys z => by cases z), fun v w z => by cases z⟩
theorem lst_nt {xs : List V} : (∀ ys, HO.lst xs ≠ .tup ys) ∧ ∀ v w, HO.lst xs ≠ .frz v w := ⟨(fun ys z => by cases z), fun v w z => by cases z⟩
theorem steps_upd {K : PySem.W.Frag} {H : Hp} {p : Addr} {xs : List V} {L : List Step} {o u : HO} (hp : H p = some u) (nt : (∀ ys, u ≠ .tup ys) ∧ ∀ v w, u ≠ .frz v w) (h : StepsAt K H xs L) : StepsAt K (upd H p o) xs L :=
  paired_mono (fun _ _ ⟨b, e, z⟩ => ⟨b, e, sqT_upd hp nt.1 nt.2 z⟩) h
/-- xs[_law_draw(pool, len(xs))] -/
theorem pick {g : Ga} {σ : L2.St} {H : Hp} {Q : VK} {sx sp : Nat} {a p : Addr} {xs : List V} {o : HO} (h1 : σ[sx]? = some (some (.ref a))) (h2 : σ[sp]? = some (some (.ref p))) (hs : SqL g.K H a xs) (hp : H p = some o) (po : PoolO o) (ne : a ≠ p) (hl : 0 < xs.length) (hl2 : xs.length ≤ 1000)
    (q : ∀ (d : Nat) v o', xs[d]? = some v → PoolO o' → Q v (upd H p o')) :
    tOp (rIxL g.K) (tVar sx) (tCall (sp_law_draw g) [] E0 (tCons (tVar sp) (tCons (tCB (rLenS g.K) (tCons (tVar sx) tNil)) tNil))) σ H Q := by
  refine ⟨_, h1, _, h2, _, h1, a, xs, rfl, .inl hs, p, o, xs.length, rfl, hp, po, by omega, ?_, fun d o' d0 d1 po' => ?_⟩
  · have : (1000 : Int) ≤ 26 ^ 12 := by decide
    omega
  · obtain ⟨k, rfl⟩ := Int.eq_ofNat_of_zero_le d0
    have hk : k < xs.length := by omega
    exact ⟨a, xs, _, xs[k], rfl, rfl, sqL_upd ne hs, atI_nat (List.getElem?_eq_getElem hk), q k _ o' (List.getElem?_eq_getElem hk) po'⟩
theorem map_get {α : Type} {f : α → V} {l : List α} {i : Nat} {v : V} (h : (l.map f)[i]? = some v) : ∃ x, l[i]? = some x ∧ v = f x := by
  rw [List.getElem?_map] at h
  cases e : l[i]? with
  | none => rw [e] at h; cases h
  | some x => rw [e] at h; exact ⟨x, rfl, (Option.some.inj h).symm⟩
/-! ### rows of steps that a law draws -/
theorem firstBad_snoc : ∀ (L kept : List Step) (i : Nat) (s : Step), firstBad (L.map some) kept i = none → s ∉ kept ++ L → leavingN (kept ++ L) s.1 ≠ 4 → firstBad ((L ++ [s]).map some) kept i = none
  | [], kept, i, s, _, h1, h2 => by
    rw [List.append_nil] at h1 h2
    simp [firstBad, h1, h2]
  | t :: L, kept, i, s, h, h1, h2 => by
    rw [List.map_cons] at h
    rw [List.cons_append, List.map_cons]
    unfold firstBad at h ⊢
    split at h
    · cases h
    · split at h
      · cases h
      · rename_i c1 c2
        rw [if_neg c1, if_neg c2]
        exact firstBad_snoc L (kept ++ [t]) (i + 1) s h (by simpa using h1) (by simpa using h2)
/-- drawn steps: over the names zs and the states ss -/
structure Drawn (zs : List Str) (ss : List Int) (L : List Step) : Prop where
  fb : firstBad (L.map some) [] 0 = none
  wd : ∀ s ∈ L, s.2.1 ∈ zs
  fr : ∀ s ∈ L, s.1 ∈ ss
  to : ∀ s ∈ L, s.2.2 ∈ ss
theorem Drawn.nil (zs : List Str) (ss : List Int) : Drawn zs ss [] := ⟨rfl, (fun s h => by cases h), (fun s h => by cases h), fun s h => by cases h⟩
theorem Drawn.snoc {zs : List Str} {ss : List Int} {L : List Step} (h : Drawn zs ss L) {s : Step} (h1 : s ∉ L) (h2 : leavingN L s.1 < 4) (hw : s.2.1 ∈ zs) (hf : s.1 ∈ ss) (ht : s.2.2 ∈ ss) : Drawn zs ss (L ++ [s]) := by
  refine ⟨firstBad_snoc L [] 0 s h.fb (by simpa using h1) (by rw [List.nil_append]; omega), ?_, ?_, ?_⟩
  all_goals
    intro t ht'
    rcases List.mem_append.mp ht' with w | w
  · exact h.wd t w
  · rw [List.mem_singleton.mp w]; exact hw
  · exact h.fr t w
  · rw [List.mem_singleton.mp w]; exact hf
  · exact h.to t w
  · rw [List.mem_singleton.mp w]; exact ht
theorem Drawn.ok {zs : List Str} {ss : List Int} {L : List Step} (h : Drawn zs ss L) (hz : ∀ z ∈ zs, IsName z) (hs : ∀ s ∈ ss, 0 ≤ s ∧ s ≤ 99) : ∀ s ∈ L, okStep s := fun s m => ⟨hs _ (h.fr s m), hz _ (h.wd s m), hs _ (h.to s m)⟩
def sp_law_many_steps (g : Ga) : Sp := fun vs H Q _ => ∃ (p n st : Addr) (m : Nat) (o : HO) (zs : List Str) (ss : List Int), vs = [.ref p, .ref n, .ref st, .int m] ∧ H p = some o ∧ PoolO o ∧ SqL g.K H n (zs.map V.str) ∧ SqL g.K H st (ss.map V.int) ∧ p ≠ n ∧ p ≠ st ∧
  zs ≠ [] ∧ ss ≠ [] ∧ (∀ z ∈ zs, IsName z) ∧ (∀ s ∈ ss, 0 ≤ s ∧ s ≤ 99) ∧ zs.length ≤ 100 ∧ ss.length ≤ 100 ∧ m ≤ 24 ∧
  ∀ (l : Addr) (xs : List V) (L : List Step) (o' : HO) (H' : Hp), Ch [p] H H' → H' p = some o' → PoolO o' → H l = none → H' l = some (.lst xs) → StepsAt g.K H' xs L → Drawn zs ss L → L.length ≤ m → (1 ≤ m → 1 ≤ L.length) → Q (.ref l) H'
def t_law_many_steps (g : Ga) : TS := (tSeq (tAsg (tLst tNil) (gName 4)) (tSeq (tFor (iRng1 (tCons (tVar 3) tNil)) (gName 5) (tSeq (tAsg (tOp (rIxL g.K) (tVar 2) (tCall (sp_law_draw g) [] E0 (tCons (tVar 0) (tCons (tCB (rLenS g.K) (tCons (tVar 2) tNil)) tNil)))) (gName 6)) (tSeq (tAsg (tTup (tCons (tVar 6) (tCons (tOp (rIxL g.K) (tVar 1) (tCall (sp_law_draw g) [] E0 (tCons (tVar 0) (tCons (tCB (rLenS g.K) (tCons (tVar 1) tNil)) tNil)))) (tCons (tOp (rIxL g.K) (tVar 2) (tCall (sp_law_draw g) [] E0 (tCons (tVar 0) (tCons (tCB (rLenS g.K) (tCons (tVar 2) tNil)) tNil)))) tNil)))) (gName 7)) (tIfS (tAnd (tTest (tOp (rNotInD g.K) (tVar 7) (tVar 4))) (tTest (tOp rLt (tCB (rLenS g.K) (tCons (tLc (iList g.K (tVar 4)) (gName 8) (tTest (tOp rEq (tOp (rIxT g.K) (tVar 8) (tC (.int 0))) (tVar 6))) (tVar 8) [8]) tNil)) (tC (.int 4))))) (tDrop (tBM g.K "list" rApp (tVar 4) (tCons (tVar 7) tNil))) tNext)))) (tRet (tVar 4))))
theorem pure_law_many_steps {g : Ga} {vs : List V} {H : Hp} {Q : VK} {E : XK} {N : List Str} (hN : N.length = 9) (h : sp_law_many_steps g vs H Q E) : t_law_many_steps g (endsQ Q) (L2.start N vs) H := by
  obtain ⟨p, n, st, m, o, zs, ss, rfl, hp, po, hn, hst, npn, nps, zne, sne, hz, hss, zl, sl, hm, q⟩ := h
  have e0 : L2.start N [.ref p, .ref n, .ref st, .int m] = [some (.ref p), some (.ref n), some (.ref st), some (.int m), none, none, none, none, none] := by
    unfold L2.start; rw [hN]; rfl
  rw [e0]
  have z0 : 0 < (zs.map V.str).length := by rw [List.length_map]; exact List.length_pos_iff.mpr zne
  have s0 : 0 < (ss.map V.int).length := by rw [List.length_map]; exact List.length_pos_iff.mpr sne
  have z1 : (zs.map V.str).length ≤ 1000 := by rw [List.length_map]; omega
  have s1 : (ss.map V.int).length ≤ 1000 := by rw [List.length_map]; omega
  refine ⟨by show 0 ≤ sizeLine; decide, fun l hl => ?_⟩
  have npl : p ≠ l := ne_of_none hp hl
  refine ⟨_, rfl, _, rfl, by omega, by omega, for_range (n := m) (fun i σ H' => ∃ (xs : List V) (L : List Step) (o' : HO) (a b c d : Option V), σ = [some (.ref p), some (.ref n), some (.ref st), some (.int m), some (.ref l), a, b, c, d] ∧ Ch [p] H H' ∧ H' p = some o' ∧ PoolO o' ∧ H' l = some (.lst xs) ∧ StepsAt g.K H' xs L ∧ Drawn zs ss L ∧ L.length ≤ i ∧ (1 ≤ i → 1 ≤ L.length))
    ⟨[], [], o, none, none, none, none, rfl, (Ch.refl H).own hl, (by rw [upd_ne npl]; exact hp), po, upd_same, .nil, Drawn.nil zs ss, Nat.le_refl _, by omega⟩ ?_ ?_⟩
  · rintro i σ H1 hi ⟨xs, L, o1, a, b, c, d, rfl, ch, hp1, po1, hl1, hL, dr, li, l1⟩
    have sq : ∀ {a ys} {H' : Hp}, Ch [p] H H' → a ≠ p → SqL g.K H a ys → SqL g.K H' a ys := fun {a ys H'} ch ne h => by
      rcases h with (h | ⟨u, h⟩) | h
      · exact .inl (.inl (ch _ _ h (by simpa using ne)))
      · exact .inl (.inr ⟨u, ch _ _ h (by simpa using ne)⟩)
      · exact .inr h
    have okL := dr.ok hz hss
    refine pick (xs := ss.map V.int) rfl rfl (sq ch nps.symm hst) hp1 po1 nps.symm s0 s1 fun k1 v1 o2 e1 po2 => ?_
    obtain ⟨lv, hlv, rfl⟩ := map_get e1
    have ch2 : Ch [p] H (upd H1 p o2) := ch.at (by simp)
    refine ⟨_, rfl, ?_⟩
    refine pick (xs := zs.map V.str) rfl rfl (sq ch2 npn.symm hn) upd_same po2 npn.symm z0 z1 fun k2 v2 o3 e2 po3 => ?_
    obtain ⟨wd, hwd, rfl⟩ := map_get e2
    rw [upd_upd]
    have ch3 : Ch [p] H (upd H1 p o3) := ch.at (by simp)
    refine pick (xs := ss.map V.int) rfl rfl (sq ch3 nps.symm hst) upd_same po3 nps.symm s0 s1 fun k3 v3 o4 e3 po4 => ?_
    obtain ⟨to, hto, rfl⟩ := map_get e3
    rw [upd_upd]
    have ch4 : Ch [p] H (upd H1 p o4) := ch.at (by simp)
    have hL4 : StepsAt g.K (upd H1 p o4) xs L := steps_upd hp1 (pool_nt po1) hL
    have hl4 : (upd H1 p o4) l = some (.lst xs) := by rw [upd_ne npl.symm]; exact hl1
    refine ⟨by show 3 ≤ sizeLine; decide, fun t ht => ?_⟩
    generalize hH5 : upd (upd H1 p o4) t (.tup [.int lv, .str wd, .int to]) = H5
    have s5 : Same (upd H1 p o4) H5 := by rw [← hH5]; exact Same.new ht
    have ch5 : Ch [p] H H5 := by rw [← hH5]; exact ch4.new ht
    have hp5 : H5 p = some o4 := s5 _ _ upd_same
    have hl5 := s5 _ _ hl4
    have hL5 := StepsAt.mono s5 hL4
    have sIn : okStep (lv, wd, to) := ⟨hss _ (List.mem_of_getElem? hlv), hz _ (List.mem_of_getElem? hwd), hss _ (List.mem_of_getElem? hto)⟩
    have hst5 : StepAt g.K H5 (.ref t) (lv, wd, to) := ⟨t, rfl, SqT.of (by rw [← hH5]; exact upd_same)⟩
    refine ⟨_, rfl, _, rfl, stepD (lv, wd, to), _, dp_step hst5, .lst (SqL.of hl5) (dp_steps hL5), step_shaped sIn, steps_shaped okL, _, rfl, ?_⟩
    rw [any_step]
    have skip : ∀ (H6 : Hp) (x : Option V), Same H5 H6 → L ≠ [] → (∃ (xs : List V) (L : List Step) (o' : HO) (a b c d : Option V), [some (V.ref p), some (V.ref n), some (V.ref st), some (V.int m), some (V.ref l), some (V.int (0 + (i : Int))), some (V.int lv), some (V.ref t), x] = [some (.ref p), some (.ref n), some (.ref st), some (.int m), some (.ref l), a, b, c, d] ∧ Ch [p] H H6 ∧ H6 p = some o' ∧ PoolO o' ∧ H6 l = some (.lst xs) ∧ StepsAt g.K H6 xs L ∧ Drawn zs ss L ∧ L.length ≤ i + 1 ∧ (1 ≤ i + 1 → 1 ≤ L.length)) := fun H6 x s6 ne =>
      ⟨xs, L, o4, _, _, _, _, rfl, ch5.trans (Ch.same s6), s6 _ _ hp5, po4, s6 _ _ hl5, StepsAt.mono s6 hL5, dr, by omega, fun _ => List.length_pos_iff.mpr ne⟩
    by_cases c1 : (lv, wd, to) ∈ L
    · rw [decide_eq_true c1]
      exact iteF (skip H5 _ (Same.refl _) fun e => by rw [e] at c1; cases c1)
    · rw [decide_eq_false c1]
      refine iteT ?_
      refine t_test (len_leave (l := l) (xs := xs) (L := L) (s := lv) rfl rfl (show 8 < 9 by decide) (by decide) (SqL.of hl5) hL5 (by omega) fun H6 s6 => ?_)
      refine ⟨_, _, rfl, rfl, _, rfl, ?_⟩
      by_cases c2 : leavingN L lv < 4
      · rw [decide_eq_true (show ((leavingN L lv : Nat) : Int) < 4 by omega)]
        have hl6 := s6 _ _ hl5
        refine iteT ⟨_, rfl, .inl ⟨rfl, _, SqL.of hl6⟩, _, rfl, l, _, _, rfl, rfl, hl6, ?_, ?_⟩
        · have := hL.length
          exact small1000 (by omega)
        · refine ⟨xs ++ [.ref t], L ++ [(lv, wd, to)], o4, _, _, _, _, rfl, (ch5.trans (Ch.same s6)).own hl, (by rw [upd_ne npl]; exact s6 _ _ hp5), po4, upd_same, ?_, dr.snoc c1 c2 (List.mem_of_getElem? hwd) (List.mem_of_getElem? hlv) (List.mem_of_getElem? hto), by simp; omega, fun _ => by simp⟩
          exact paired_app (steps_upd hl6 lst_nt (StepsAt.mono s6 hL5)) (.cons (let ⟨b, e, z⟩ := StepAt.mono s6 hst5; ⟨b, e, sqT_upd hl6 lst_nt.1 lst_nt.2 z⟩) .nil)
      · rw [decide_eq_false (show ¬ ((leavingN L lv : Nat) : Int) < 4 by omega)]
        exact iteF (skip H6 _ s6 fun e => by rw [e] at c2; exact c2 (show 0 < 4 by decide))
  · rintro σ H1 ⟨xs, L, o1, a, b, c, d, rfl, ch, hp1, po1, hl1, hL, dr, li, l1⟩
    exact ⟨_, rfl, q l xs L o1 H1 ch hp1 po1 hl hl1 hL dr li l1⟩
end Sd
namespace Sd
open PySem PySem.Spec PyProof.Rows L2
theorem s_asg {te : TE} {G : TG} {u : TS} {D : Ends} {σ : L2.St} {H : Hp} (h : te σ H fun x H1 => G x σ H1 (u D)) : tSeq (tAsg te G) u D σ H := h
theorem s_drop {te : TE} {u : TS} {D : Ends} {σ : L2.St} {H : Hp} (h : te σ H fun x H1 => u D σ H1) : tSeq (tDrop te) u D σ H := h
theorem s_ret {te : TE} {D : Ends} {σ : L2.St} {H : Hp} (h : te σ H D.rt) : tRet te D σ H := h
theorem e_cb1 {r : List V → Hp → VK → Prop} {te : TE} {σ : L2.St} {H : Hp} {Q : VK} (h : te σ H fun x H1 => r [x] H1 Q) : tCB r (tCons te tNil) σ H Q := h
/-! ### _law_reached: nine rounds over the steps -/
def Closed (L : List Step) (ns : List Int) : Prop := ∀ s ∈ L, s.1 ∈ ns → s.2.2 ∈ ns
theorem Fnd.le {L : List Step} {s0 : Int} {ns : List Int} (h : Fnd L s0 ns) : ns.length ≤ (reachL L s0).length := nodup_leG ns _ h.nd fun x hx => mem_reachL.mpr (h.re x hx)
def sp_law_reached (g : Ga) : Sp := fun vs H Q _ => ∃ (s0 : Int) (l : Addr) (xs : List V) (L : List Step), vs = [.int s0, .ref l] ∧ SqL g.K H l xs ∧ StepsAt g.K H xs L ∧ L.length ≤ 100 ∧ (reachL L s0).length ≤ 9 ∧ ∀ p H', Same H H' → H p = none → H' p = some (.tup ((reachL L s0).map V.int)) → Q (.ref p) H'
def t_law_reached (g : Ga) : TS := (tSeq (tAsg (tLst (tCons (tVar 0) tNil)) (gName 2)) (tSeq (tFor (iRng1 (tCons (tC (.int 9)) tNil)) (gName 3) (tFor (iList g.K (tVar 1)) (gName 4) (tIfS (tAnd (tTest (tOp (rIn g.K false) (tOp (rIxT g.K) (tVar 4) (tC (.int 0))) (tVar 2))) (tTest (tOp (rIn g.K true) (tOp (rIxT g.K) (tVar 4) (tC (.int 2))) (tVar 2)))) (tDrop (tBM g.K "list" rApp (tVar 2) (tCons (tOp (rIxT g.K) (tVar 4) (tC (.int 2))) tNil))) tNext))) (tRet (tCB (rTupS g.K) (tCons (tCB (rSortedI g.K) (tCons (tVar 2) tNil)) tNil)))))
theorem pure_law_reached {g : Ga} {vs : List V} {H : Hp} {Q : VK} {E : XK} {N : List Str} (hN : N.length = 5) (h : sp_law_reached g vs H Q E) : t_law_reached g (endsQ Q) (L2.start N vs) H := by
  obtain ⟨s0, a, xs, L, rfl, hs, hL, few, r9, q⟩ := h
  have e0 : L2.start N [.int s0, .ref a] = [some (.int s0), some (.ref a), none, none, none] := by
    unfold L2.start; rw [hN]; rfl
  rw [e0]
  have lx := hL.length
  refine ⟨_, rfl, by show 1 ≤ sizeLine; decide, fun l hl => ?_⟩
  refine ⟨_, rfl, by decide, by decide, for_range (n := 9) (fun i σ H' => ∃ (ns : List Int) (p q : Option V), σ = [some (.int s0), some (.ref a), some (.ref l), p, q] ∧ Same H H' ∧ H' l = some (.lst (ns.map V.int)) ∧ Fnd L s0 ns ∧ (Closed L ns ∨ i + 1 ≤ ns.length))
    ⟨[s0], none, none, rfl, Same.new hl, upd_same, ⟨by simp, by simp, fun x hx => by rw [List.mem_singleton.mp hx]; exact .base⟩, .inr (Nat.le_refl _)⟩ ?_ ?_⟩
  · rintro i σ H1 hi ⟨ns, p, q', rfl, sm, hl1, fd, alt⟩
    refine ⟨_, rfl, a, rfl, ⟨_, sm.seq hs⟩, for_list (K := g.K) (a := a) (xs := xs) (fun k σ H' => ∃ (ms : List Int) (p q : Option V), σ = [some (.int s0), some (.ref a), some (.ref l), p, q] ∧ Same H H' ∧ H' l = some (.lst ((ns ++ ms).map V.int)) ∧ Fnd L s0 (ns ++ ms) ∧ (ms = [] → ∀ s ∈ L.take k, s.1 ∈ ns → s.2.2 ∈ ns) ∧ (Closed L ns → ms = []))
      ⟨[], _, q', rfl, sm, by rw [List.append_nil]; exact hl1, by rw [List.append_nil]; exact fd, (fun _ s hs => by simp at hs), fun _ => rfl⟩ (fun k σ H' _ ⟨_, _, _, _, sm', _⟩ => sm'.seq hs) ?_ ?_⟩
    · rintro k v σ H' hv ⟨ms, p', q'', rfl, sm', hl', fd', cl', cz⟩
      obtain ⟨s, hs1, b, rfl, st⟩ := paired_get hL hv
      have sL : s ∈ L := List.mem_of_getElem? hs1
      have st' := Same.tup sm' st
      refine ⟨_, rfl, b, _, _, .int s.1, rfl, rfl, st', rfl, _, rfl, l, _, rfl, .inl (SqL.of hl'), rfl, int_flat _, _, rfl, ?_⟩
      rw [if_neg Bool.false_ne_true, inV_int]
      have take : ∀ t ∈ L.take (k + 1), t ∈ L.take k ∨ t = s := fun t ht => by
        rw [List.take_add_one, hs1, Option.toList_some] at ht
        rcases List.mem_append.mp ht with w | w
        · exact .inl w
        · exact .inr (List.mem_singleton.mp w)
      by_cases h1 : s.1 ∈ ns ++ ms
      · rw [decide_eq_true h1]
        refine iteT ⟨_, rfl, b, _, _, .int s.2.2, rfl, rfl, st', rfl, _, rfl, l, _, rfl, .inl (SqL.of hl'), rfl, int_flat _, _, rfl, ?_⟩
        rw [if_pos rfl, inV_int]
        by_cases h2 : s.2.2 ∈ ns ++ ms
        · rw [decide_eq_true h2]
          refine iteF ⟨ms, _, _, rfl, sm', hl', fd', fun e t ht hm => ?_, cz⟩
          rcases take t ht with w | w
          · exact cl' e t w hm
          · rw [w]; rw [e, List.append_nil] at h2; exact h2
        · rw [decide_eq_false h2]
          refine iteT ⟨_, rfl, .inl ⟨rfl, _, SqL.of hl'⟩, _, rfl, b, _, _, .int s.2.2, rfl, rfl, st', rfl, l, _, _, rfl, rfl, hl', ?_, ?_⟩
          · rw [List.length_map]
            have := fd'.len
            exact small1000 (by omega)
          · have fd2 : Fnd L s0 ((ns ++ ms) ++ [s.2.2]) := fd'.add (x := s.1) (w := s.2.1) h1 sL h2
            refine ⟨ms ++ [s.2.2], _, _, rfl, Same.own sm' hl, ?_, by rw [← List.append_assoc]; exact fd2, fun e => by simp at e, fun c => ?_⟩
            · rw [upd_same, ← List.append_assoc, List.map_append (l₁ := ns ++ ms)]; rfl
            · rw [cz c, List.append_nil] at h1 h2
              exact absurd (c s sL h1) h2
      · rw [decide_eq_false h1]
        refine iteF (iteF ⟨ms, _, _, rfl, sm', hl', fd', fun e t ht hm => ?_, cz⟩)
        rcases take t ht with w | w
        · exact cl' e t w hm
        · rw [w] at hm; rw [e, List.append_nil] at h1; exact absurd hm h1
    · rintro σ H' ⟨ms, p', q'', rfl, sm', hl', fd', cl', cz⟩
      rw [lx, List.take_length] at cl'
      refine ⟨ns ++ ms, _, _, rfl, sm', hl', fd', ?_⟩
      by_cases e : ms = []
      · subst e
        rw [List.append_nil]
        exact .inl (cl' rfl)
      · right
        rcases alt with c | c
        · exact absurd (cz c) e
        · have := List.length_pos_iff.mpr e
          rw [List.length_append]; omega
  · rintro σ H1 ⟨ns, p, q', rfl, sm, hl1, fd, alt⟩
    have cl : Closed L ns := by
      rcases alt with c | c
      · exact c
      · have := fd.le; omega
    refine ⟨_, rfl, l, ns, rfl, SqL.of hl1, fun ns' r pm pw hr => ?_⟩
    have nr : H r = none := sm.free hr
    have e : ns' = reachL L s0 := reachL_eq (ascI_of pw (pm.nodup_iff.mpr fd.nd)) fun x => (pm.mem_iff).trans (fd.all cl x)
    subst e
    refine ⟨r, _, rfl, .inl ⟨SqL.of upd_same, fun t ht => ?_⟩⟩
    have s2 : Same H (upd H1 r (.lst ((reachL L s0).map V.int))) := Same.own sm nr
    have nt : H t = none := s2.free ht
    exact q t _ (Same.own s2 nt) nt upd_same
/-! ### _law_holds: the hand's parts are these -/
noncomputable def handD (s0 : Int) (L : List Step) : PyData := .tuple [.int s0, .tuple (L.map stepD), .tuple ((wordsOf L).map .str), .tuple ((reachL L s0).map .int)]
theorem dp_strs {K : PySem.W.Frag} {H : Hp} : ∀ zs : List Str, DpAll K H (zs.map V.str) (zs.map .str)
  | [] => .nil
  | z :: zs => .cons (.str z) (dp_strs zs)
theorem dp_ints {K : PySem.W.Frag} {H : Hp} : ∀ ns : List Int, DpAll K H (ns.map V.int) (ns.map .int)
  | [] => .nil
  | n :: ns => .cons (.int n) (dp_ints ns)
theorem short_map {α : Type} (f : α → PyData) (hf : ∀ a, shortD (f a) = true) : ∀ l : List α, shortAll (l.map f) = true
  | [] => rfl
  | a :: l => by rw [List.map_cons]; unfold shortAll; rw [hf a, short_map f hf l]; rfl
theorem depth_map {α : Type} (f : α → PyData) (n : Nat) (hf : ∀ a, (f a).depth ≤ n) : ∀ l : List α, PyData.depthAll (l.map f) ≤ n
  | [] => Nat.zero_le _
  | a :: l => by
    rw [List.map_cons]; unfold PyData.depthAll
    have h1 := hf a
    have h2 := depth_map f n hf l
    omega
theorem short_step (s : Step) : shortD (stepD s) = true := by simp [stepD, shortD, shortAll]
theorem depth_step (s : Step) : (stepD s).depth ≤ 1 := by simp [stepD, PyData.depth, PyData.depthAll]
theorem handD_depth (s0 : Int) (L : List Step) : (handD s0 L).depth ≤ 3 := by
  have h1 := depth_map stepD 1 depth_step L
  have h2 := depth_map PyData.str 0 (fun z => by simp [PyData.depth]) (wordsOf L)
  have h3 := depth_map PyData.int 0 (fun z => by simp [PyData.depth]) (reachL L s0)
  simp only [handD, PyData.depth, PyData.depthAll]
  omega
theorem wordsOf_len (L : List Step) : (wordsOf L).length ≤ L.length := by
  have := uniq_len (L.map (·.2.1))
  rw [List.length_map] at this
  exact this
theorem handD_short {s0 : Int} {L : List Step} (h : L.length ≤ 1000) (h2 : (reachL L s0).length ≤ 1000) : shortD (handD s0 L) = true := by
  have h3 := wordsOf_len L
  simp only [handD, shortD, shortAll, short_map stepD short_step, short_map PyData.str (fun z => rfl), short_map PyData.int (fun z => rfl), List.length_map, Bool.and_true, Bool.and_eq_true, decide_eq_true_eq, List.length_cons, List.length_nil]
  exact ⟨by decide, trivial, by omega, by omega, by omega⟩
def sp_law_holds (g : Ga) : Sp := fun vs H Q _ => ∃ (x : Addr) (s0 : Int) (l : Addr) (xs : List V) (L : List Step), vs = [.ref x, .int s0, .ref l] ∧ HandAt g H x s0 L ∧ SqL g.K H l xs ∧ StepsAt g.K H xs L ∧ L.length ≤ 100 ∧ (reachL L s0).length ≤ 9 ∧ ∀ H', Same H H' → Q (.bl true) H'
def t_law_holds (g : Ga) : TS := (tSeq (tAsg (tCB (rTupS g.K) (tCons (tCB (rSortX g.w) (tCons (tCB (rSetT g.K g.w) (tCons (tLc (iList g.K (tVar 2)) (gName 5) tYes (tOp (rIxT g.K) (tVar 5) (tC (.int 1))) [5]) tNil)) tNil)) tNil)) (gName 3)) (tSeq (tAsg (tTup (tCons (tVar 1) (tCons (tCB (rTupS g.K) (tCons (tVar 2) tNil)) (tCons (tVar 3) (tCons (tCall (sp_law_reached g) [] E0 (tCons (tVar 1) (tCons (tVar 2) tNil))) tNil))))) (gName 4)) (tRet (tCall (sp_law_same 3 g) [] E0 (tCons (tTup (tCons (tFld g.K (tVar 0) "start") (tCons (tFld g.K (tVar 0) "steps") (tCons (tFld g.K (tVar 0) "words") (tCons (tFld g.K (tVar 0) "states") tNil))))) (tCons (tVar 4) tNil))))))
theorem fld_start {s0 : Int} {p q r : Addr} : (handF s0 p q r).lookup ("start" : Str) = some (V.int s0) := by simp [handF, List.lookup]
theorem fld_steps {s0 : Int} {p q r : Addr} : (handF s0 p q r).lookup ("steps" : Str) = some (V.ref p) := by
  have h : (("steps" : Str) == "start") = false := by decide +kernel
  simp [handF, List.lookup, h]
theorem fld_words {s0 : Int} {p q r : Addr} : (handF s0 p q r).lookup ("words" : Str) = some (V.ref q) := by
  have h : (("words" : Str) == "start") = false := by decide +kernel
  have h2 : (("words" : Str) == "steps") = false := by decide +kernel
  simp [handF, List.lookup, h, h2]
theorem fld_states {s0 : Int} {p q r : Addr} : (handF s0 p q r).lookup ("states" : Str) = some (V.ref r) := by
  have h : (("states" : Str) == "start") = false := by decide +kernel
  have h2 : (("states" : Str) == "steps") = false := by decide +kernel
  have h3 : (("states" : Str) == "words") = false := by decide +kernel
  simp [handF, List.lookup, h, h2, h3]
/-- [step[1] for step in steps] -/
theorem lc_words {g : Ga} {σ : L2.St} {H : Hp} {Q : VK} {sl c : Nat} {l : Addr} {xs : List V} {L : List Step} (h1 : σ[sl]? = some (some (.ref l))) (hc : c < σ.length) (hs : SqL g.K H l xs) (hL : StepsAt g.K H xs L) (few : L.length ≤ 1000)
    (q : ∀ D H', Same H H' → H D = none → H' D = some (.lst ((L.map (·.2.1)).map V.str)) → Q (.ref D) H') :
    tLc (iList g.K (tVar sl)) (gName c) tYes (tOp (rIxT g.K) (tVar c) (tC (.int 1))) [c] σ H Q := by
  have hlen := hL.length
  refine ⟨_, h1, l, rfl, ⟨_, hs⟩, fun D hD => ?_⟩
  refine lc_list (K := g.K) (a := l) (xs := xs) (fun i H' => Same H H' ∧ H' D = some (.lst (((L.take i).map (·.2.1)).map V.str))) ⟨Same.new hD, upd_same⟩ (fun i H' _ z => z.1.seq hs) ?_ ?_
  · rintro i x H' hx ⟨sm, hy⟩
    obtain ⟨t, ht, a, rfl, st⟩ := paired_get hL hx
    refine ⟨blk_set _ hc, ?_⟩
    refine ⟨_, blk_own _ hc, a, _, _, .str t.2.1, rfl, rfl, Same.tup sm st, rfl, _, hy, ?_, Same.own sm hD, ?_⟩
    · rw [List.length_map, List.length_map, List.length_take]
      exact small1000 (by omega)
    · rw [upd_same, List.take_add_one, ht, Option.toList_some, List.map_append, List.map_append]; rfl
  · rintro H' ⟨sm, hy⟩
    rw [hlen, List.take_length] at hy
    exact q D H' sm hD hy
theorem pure_law_holds {g : Ga} {vs : List V} {H : Hp} {Q : VK} {E : XK} {N : List Str} (T : HandC g) (hN : N.length = 6) (h : sp_law_holds g vs H Q E) : t_law_holds g (endsQ Q) (L2.start N vs) H := by
  obtain ⟨x, s0, l, xs, L, rfl, hx, hs, hL, few, r9, q⟩ := h
  have e0 : L2.start N [.ref x, .int s0, .ref l] = [some (.ref x), some (.int s0), some (.ref l), none, none, none] := by
    unfold L2.start; rw [hN]; rfl
  rw [e0]
  refine s_asg (e_cb1 (e_cb1 (e_cb1 (lc_words (g := g) (l := l) (xs := xs) (L := L) rfl (by show 5 < 6; decide) hs hL (by omega) fun D H1 s1 nD hD => ?_))))
  refine ⟨D, L.map (·.2.1), rfl, .inl (SqL.of hD), by rw [List.length_map]; omega, fun S hS => ?_⟩
  refine ⟨S, _, rfl, upd_same, fun w1 hw1 => ?_⟩
  rw [uniq_allT]
  refine ⟨w1, _, rfl, .inl ⟨SqL.of upd_same, fun w2 hw2 => ?_⟩⟩
  generalize hH4 : upd (upd (upd H1 S _) w1 _) w2 _ = H4
  have s4 : Same H1 H4 := by
    rw [← hH4]
    exact ((Same.new hS).trans (Same.new hw1)).trans (Same.new hw2)
  have h2 : H4 w2 = some (.tup ((wordsOf L).map V.str)) := by rw [← hH4]; exact upd_same
  have s04 : Same H H4 := s1.trans s4
  refine ⟨_, rfl, _, rfl, l, xs, rfl, .inl ⟨s04.seq hs, fun t ht => ?_⟩⟩
  have s5 : Same H4 (upd H4 t (.tup xs)) := Same.new ht
  refine ⟨_, rfl, _, rfl, _, rfl, s0, l, xs, L, rfl, (s04.trans s5).seq hs, StepsAt.mono (s04.trans s5) hL, few, r9, fun r H6 s6 nr hr => ?_⟩
  have s06 : Same H H6 := (s04.trans s5).trans s6
  refine ⟨by show 4 ≤ sizeLine; decide, fun u hu => ?_⟩
  have s7 : Same H6 (upd H6 u (.tup [.int s0, .ref t, .ref w2, .ref r])) := Same.new hu
  have s07 := s06.trans s7
  obtain ⟨dx, p, q', r', ys, g1, g2, g3, g4, g5⟩ := (HandAt.mono s07 hx).ex
  refine ⟨_, rfl, x, _, dx, _, _, rfl, g1, T.cl, T.n1, fld_start, _, rfl, x, _, dx, _, _, rfl, g1, T.cl, T.n2, fld_steps, _, rfl, x, _, dx, _, _, rfl, g1, T.cl, T.n3, fld_words, _, rfl, x, _, dx, _, _, rfl, g1, T.cl, T.n4, fld_states, ?_⟩
  refine ⟨by show 4 ≤ sizeLine; decide, fun v hv => ?_⟩
  have s8 : Same (upd H6 u (.tup [.int s0, .ref t, .ref w2, .ref r])) (upd (upd H6 u (.tup [.int s0, .ref t, .ref w2, .ref r])) v (.tup [.int s0, .ref p, .ref q', .ref r'])) := Same.new hv
  refine ⟨_, rfl, _, _, handD s0 L, rfl, ?_, ?_, handD_depth s0 L, handD_short (by omega) (by omega), q _ (s07.trans s8)⟩
  · refine .tup (SqT.of upd_same) (.cons (.int _) (.cons (.tup (Same.tup s8 g2) (dp_steps (StepsAt.mono s8 g3))) (.cons (.tup (Same.tup s8 g4) (dp_strs _)) (.cons (.tup (Same.tup s8 g5) (dp_ints _)) .nil))))
  · have ht8 : SqT g.K _ t xs := Same.tup s8 (Same.tup s7 (Same.tup s6 (SqT.of upd_same)))
    have hw8 : SqT g.K _ w2 ((wordsOf L).map V.str) := Same.tup s8 (Same.tup s7 (Same.tup s6 (Same.tup s5 (SqT.of h2))))
    have hr8 : SqT g.K _ r ((reachL L s0).map V.int) := Same.tup s8 (Same.tup s7 (SqT.of hr))
    refine .tup (Same.tup s8 (SqT.of upd_same)) (.cons (.int _) (.cons (.tup ht8 (dp_steps (StepsAt.mono (s07.trans s8) hL))) (.cons (.tup hw8 (dp_strs _)) (.cons (.tup hr8 (dp_ints _)) .nil))))
end Sd
namespace Sd
open PySem PySem.Spec PyProof.Rows L2
theorem words_le {zs : List Str} {L : List Step} (h : ∀ s ∈ L, s.2.1 ∈ zs) : (wordsOf L).length ≤ zs.length := by
  refine nodup_leG _ _ ?_ fun x hx => ?_
  · exact List.Pairwise.imp (fun {a b} k e => by rw [e] at k; exact absurd k (ltT_irr b)) (asc_uniq _)
  · obtain ⟨s, hs, rfl⟩ := List.mem_map.mp (mem_uniq.mp hx)
    exact h s hs
theorem reach_in {ss : List Int} {L : List Step} {s0 x : Int} (h0 : s0 ∈ ss) (ht : ∀ s ∈ L, s.2.2 ∈ ss) (h : Reach L s0 x) : x ∈ ss := by
  cases h with
  | base => exact h0
  | step _ m => exact ht _ m
theorem reach_le {ss : List Int} {L : List Step} {s0 : Int} (h0 : s0 ∈ ss) (ht : ∀ s ∈ L, s.2.2 ∈ ss) : (reachL L s0).length ≤ ss.length :=
  nodup_leG _ _ (ascI_nodup (asc_reachL L s0)) fun _ hx => reach_in h0 ht (mem_reachL.mp hx)
theorem reach_out {ss : List Int} {L : List Step} {s0 x : Int} (h0 : s0 ∉ ss) (hf : ∀ s ∈ L, s.1 ∈ ss) (h : Reach L s0 x) : x = s0 := by
  induction h with
  | base => rfl
  | step _ m ih => rw [ih] at m; exact absurd (hf _ m) h0
theorem reach_le1 {ss : List Int} {L : List Step} {s0 : Int} (h0 : s0 ∉ ss) (hf : ∀ s ∈ L, s.1 ∈ ss) : (reachL L s0).length ≤ 1 :=
  nodup_leG _ [s0] (ascI_nodup (asc_reachL L s0)) fun _ hx => by rw [reach_out h0 hf (mem_reachL.mp hx)]; exact List.mem_cons_self
theorem reach_drawn {zs : List Str} {ss : List Int} {L : List Step} {s0 : Int} (h : Drawn zs ss L) (n : 1 ≤ ss.length) : (reachL L s0).length ≤ ss.length := by
  by_cases h0 : s0 ∈ ss
  · exact reach_le h0 h.to
  · exact Nat.le_trans (reach_le1 h0 h.fr) n
/-- a draw below a written number -/
theorem draw_c {g : Ga} {σ : L2.St} {H : Hp} {Q : VK} {s : Nat} {p : Addr} {o : HO} {m : Int} (h : σ[s]? = some (some (.ref p))) (hp : H p = some o) (po : PoolO o) (h1 : 0 < m) (h2 : m ≤ 26 ^ 12) (q : ∀ (d : Nat) o', (d : Int) < m → PoolO o' → Q (.int d) (upd H p o')) :
    tCall (sp_law_draw g) [] E0 (tCons (tVar s) (tCons (tC (.int m)) tNil)) σ H Q :=
  ⟨_, h, p, o, m, rfl, hp, po, h1, h2, fun d o' d0 d1 po' => by
    obtain ⟨n, rfl⟩ := Int.eq_ofNat_of_zero_le d0
    exact q n o' d1 po'⟩
theorem e_op {r : R2} {ta tb : TE} {σ : L2.St} {H : Hp} {Q : VK} (h : ta σ H fun x H1 => tb σ H1 fun y H2 => r x y H2 Q) : tOp r ta tb σ H Q := h
theorem e_call2 {sp : Sp} {E : XK} {i : Nat} {v : V} {te : TE} {σ : L2.St} {H : Hp} {Q : VK} (hv : σ[i]? = some (some v)) (h : te σ H fun x H1 => sp [v, x] H1 Q E) : tCall sp [] E (tCons (tVar i) (tCons te tNil)) σ H Q := ⟨v, hv, h⟩
theorem e_cst {v : V} {σ : L2.St} {H : Hp} {Q : VK} (h : Q v H) : tC v σ H Q := h
theorem s_if {c : TT} {t e u : TS} {D : Ends} {σ : L2.St} {H : Hp} (h : c σ H fun b H1 => if b = true then t { D with nx := u D } σ H1 else e { D with nx := u D } σ H1) : tSeq (tIfS c t e) u D σ H := h
theorem items_of {K : PySem.W.Frag} {H : Hp} {xs : List V} {L : List Step} (h : StepsAt K H xs L) (ok : ∀ s ∈ L, okStep s) : Paired (ItemV K H) xs (L.map some) := by
  induction h with
  | nil => exact .nil
  | @cons a b l1 l2 r t ih => exact .cons ⟨r, ok b List.mem_cons_self⟩ (ih fun s hs => ok s (List.mem_cons_of_mem _ hs))
theorem seqOf_mono {K : PySem.W.Frag} {H H' : Hp} {x : V} {xs : List V} (s : Same H H') (h : seqOf K H x xs) : seqOf K H' x xs := by
  obtain ⟨a, rfl, h | h⟩ := h
  · exact ⟨a, rfl, .inl (s.seq h)⟩
  · exact ⟨a, rfl, .inr (Same.tup s h)⟩
/-- Hand(start, steps) with good steps -/
theorem make_hand {g : Ga} {σ : L2.St} {H : Hp} {Q : VK} {E : XK} {ts tl : TE} {s0 : Int} {w : V} {xs : List V} {L : List Step} (ht : ∀ R : List V → Hp → Prop, R [.int s0, w] H → tCons ts (tCons tl tNil) σ H R) (hs : 0 ≤ s0 ∧ s0 ≤ 99) (hw : seqOf g.K H w xs) (hL : StepsAt g.K H xs L) (ok : ∀ s ∈ L, okStep s) (fb : firstBad (L.map some) [] 0 = none)
    (l1 : 1 ≤ L.length) (l2 : L.length ≤ 24) (hz : (wordsOf L).length ≤ 8) (hr : (reachL L s0).length ≤ 8) (q : ∀ x H', Same H H' → H x = none → HandAt g H' x s0 L → Q (.ref x) H') :
    tMake g.cHand (sp_Hand_init g) [] E (tCons ts (tCons tl tNil)) σ H Q := by
  refine ht _ ?_
  intro x dx hx hd ne
  have len := hL.length
  have s1 : Same H (upd (upd H dx (.own x)) x (.ins g.cHand dx [])) := Same.own (Same.new hd) hx
  have hw1 : seqOf g.K (upd (upd H dx (.own x)) x (.ins g.cHand dx [])) w xs := seqOf_mono s1 hw
  refine ⟨x, dx, _, _, rfl, upd_same, .inr ⟨s0, rfl, hs, .inr ⟨xs, hw1, .inr ⟨⟨by omega, by omega⟩, L.map some, items_of (StepsAt.mono s1 hL) ok, (fun i e => by rw [fb] at e; cases e), fun _ L' e => ?_⟩⟩⟩⟩
  have e' : L' = L := (List.map_inj_right (f := some) (fun a b z => Option.some.inj z)).mp e.symm
  subst e'
  refine ⟨fun z => absurd z (by omega), fun _ _ H' ch hh => ⟨rfl, q x H' (fun b o e => ?_) hx hh⟩⟩
  exact ch b o (s1 b o e) (by simp; exact ne_of_none e hx)
/-- Hand(start, tuple(steps)) -/
theorem make_hand2 {g : Ga} {σ : L2.St} {H : Hp} {Q : VK} {ts : TE} {sl : Nat} {l : Addr} {s0 : Int} {xs : List V} {L : List Step} (ht : ∀ Q : VK, Q (.int s0) H → ts σ H Q) (hv : σ[sl]? = some (some (.ref l))) (hl : SqL g.K H l xs) (hs : 0 ≤ s0 ∧ s0 ≤ 99) (hL : StepsAt g.K H xs L) (ok : ∀ s ∈ L, okStep s) (fb : firstBad (L.map some) [] 0 = none)
    (l1 : 1 ≤ L.length) (l2 : L.length ≤ 24) (hz : (wordsOf L).length ≤ 8) (hr : (reachL L s0).length ≤ 8) (q : ∀ x H', Same H H' → HandAt g H' x s0 L → Q (.ref x) H') :
    tMake g.cHand (sp_Hand_init g) [] E0 (tCons ts (tCons (tCB (rTupS g.K) (tCons (tVar sl) tNil)) tNil)) σ H Q := by
  refine ht _ ?_
  refine ⟨_, hv, l, xs, rfl, .inl ⟨hl, fun p hp => ?_⟩⟩
  have s1 : Same H (upd H p (.tup xs)) := Same.new hp
  exact make_hand (σ := σ) (ts := tC (.int s0)) (tl := tC (.ref p)) (fun R r => r) hs ⟨p, rfl, .inr (SqT.of upd_same)⟩ (StepsAt.mono s1 hL) ok fb l1 l2 hz hr fun x H' s _ h => q x H' (s1.trans s) h
def t_k02_6 (g : Ga) : TS := (tRet (tAndV (tCall (sp_law_holds g) [] E0 (tCons (tVar 11) (tCons (tOp (rIxT g.K) (tOp (rIxL g.K) (tVar 8) (tC (.int 0))) (tC (.int 2))) (tCons (tVar 8) tNil)))) (tCall (sp_law_holds g) [] E0 (tCons (tVar 10) (tCons (tVar 5) (tCons (tVar 8) tNil))))))
def t_k02_5 (g : Ga) : TS := (tSeq (tAsg (tMake g.cHand (sp_Hand_init g) [] E0 (tCons (tOp (rIxT g.K) (tOp (rIxL g.K) (tVar 8) (tC (.int 0))) (tC (.int 2))) (tCons (tCB (rTupS g.K) (tCons (tVar 8) tNil)) tNil))) (gName 11)) (t_k02_6 g))
def t_k02_4 (g : Ga) : TS := (tSeq (tAsg (tMake g.cHand (sp_Hand_init g) [] E0 (tCons (tVar 5) (tCons (tVar 9) tNil))) (gName 10)) (tSeq (tIfS (tOr (tTest (tOp (rNeD g.K) (tVar 9) (tVar 8))) (tNot (tB (tCall (sp_law_holds g) [] E0 (tCons (tVar 10) (tCons (tVar 5) (tCons (tVar 8) tNil))))))) (tRet (tC (.bl false))) tNext) (tSeq (tDrop (tBM0 g.K "list" rClr (tVar 9))) (tSeq (tDrop (tBM g.K "list" rApp (tVar 9) (tCons (tTup (tCons (tC (.int 0)) (tCons (tC (.str "z")) (tCons (tC (.int 1)) tNil)))) tNil))) (t_k02_5 g)))))
def t_k02_3 (g : Ga) : TS := (tSeq (tAsg (tCB (rListS g.K) (tCons (tVar 8) tNil)) (gName 9)) (t_k02_4 g))
def t_k02_2c (g : Ga) : TS := (tSeq (tAsg (tCall (sp_law_many_steps g) [] E0 (tCons (tCall (sp_law_pool g) [] E0 (tCons (tCall (sp_law_cell g) [] E0 (tCons (tVar 0) (tCons (tC (.int 1)) tNil))) tNil)) (tCons (tVar 7) (tCons (tVar 4) (tCons (tVar 6) tNil))))) (gName 8)) (t_k02_3 g))
def t_k02_2b (g : Ga) : TS := (tSeq (tAsg (tCall (sp_law_names g) [] E0 (tCons (tVar 1) (tCons (tOp rAdd (tC (.int 1)) (tCall (sp_law_draw g) [] E0 (tCons (tVar 1) (tCons (tC (.int 8)) tNil)))) tNil))) (gName 7)) (t_k02_2c g))
def t_k02_2 (g : Ga) : TS := (tSeq (tAsg (tOp rAdd (tC (.int 1)) (tCall (sp_law_draw g) [] E0 (tCons (tVar 1) (tCons (tC (.int 24)) tNil)))) (gName 6)) (t_k02_2b g))
def t_k02_1e (g : Ga) : TS := (tSeq (tIfS (tTest (tOp rEq (tCall (sp_law_draw g) [] E0 (tCons (tVar 1) (tCons (tC (.int 6)) tNil))) (tC (.int 0)))) (tAsg (tOp rAdd (tC (.int 98)) (tCall (sp_law_draw g) [] E0 (tCons (tVar 1) (tCons (tC (.int 2)) tNil)))) (gName 5)) tNext) (t_k02_2 g))
def t_k02_1d (g : Ga) : TS := (tSeq (tAsg (tOp (rIxL g.K) (tVar 4) (tCall (sp_law_draw g) [] E0 (tCons (tVar 1) (tCons (tCB (rLenS g.K) (tCons (tVar 4) tNil)) tNil)))) (gName 5)) (t_k02_1e g))
def t_k02_1c (g : Ga) : TS := (tSeq (tAsg (tLc (iRng1 (tCons (tOp rAdd (tC (.int 1)) (tCall (sp_law_draw g) [] E0 (tCons (tVar 1) (tCons (tC (.int 8)) tNil)))) tNil)) (gName 12) tYes (tOp rMod (tCB rInt1 (tCons (tOp rAdd (tVar 2) (tOp rMul (tVar 3) (tVar 12))) tNil)) (tC (.int 98))) [12]) (gName 4)) (t_k02_1d g))
def t_k02_1b (g : Ga) : TS := (tSeq (tAsg (tOp (rIxL g.K) (tLst (tCons (tC (.int 1)) (tCons (tC (.int 3)) (tCons (tC (.int 7)) (tCons (tC (.int 9)) (tCons (tC (.int 11)) (tCons (tC (.int 13)) (tCons (tC (.int 33)) tNil)))))))) (tCall (sp_law_draw g) [] E0 (tCons (tVar 1) (tCons (tC (.int 7)) tNil)))) (gName 3)) (t_k02_1c g))
def t_k02_law (g : Ga) : TS := (tSeq (tAsg (tCall (sp_law_pool g) [] E0 (tCons (tCall (sp_law_cell g) [] E0 (tCons (tVar 0) (tCons (tC (.int 0)) tNil))) tNil)) (gName 1)) (tSeq (tAsg (tCall (sp_law_draw g) [] E0 (tCons (tVar 1) (tCons (tC (.int 98)) tNil))) (gName 2)) (t_k02_1b g)))
theorem HandAt.upd {g : Ga} {H : Hp} {x p : Addr} {s0 : Int} {L : List Step} {xs : List V} {u : HO} (hp : H p = some (.lst xs)) (h : HandAt g H x s0 L) : HandAt g (upd H p u) x s0 L := by
  obtain ⟨dx, a, b, c, ys, h1, h2, h3, h4, h5⟩ := h.ex
  have nt := lst_nt (xs := xs)
  refine ⟨dx, a, b, c, ys, ?_, sqT_upd hp nt.1 nt.2 h2, steps_upd hp nt h3, sqT_upd hp nt.1 nt.2 h4, sqT_upd hp nt.1 nt.2 h5⟩
  rw [upd_ne (ne_of h1 hp (fun z => by cases z))]
  exact h1
theorem steps_eqv : ∀ L : List Step, PyData.eqvAll (L.map stepD) (L.map stepD) = true
  | [] => rfl
  | s :: L => by
    rw [List.map_cons]; unfold PyData.eqvAll
    rw [step_eqv, decide_eq_true rfl, steps_eqv L]; rfl
theorem pure_k02_3 {g : Ga} {H : Hp} {a b c d e f h m : Option V} {l : Addr} {s0 : Int} {xs : List V} {L : List Step} {zs : List Str} {ss : List Int} {Q : VK} (hl : H l = some (.lst xs)) (hL : StepsAt g.K H xs L) (dr : Drawn zs ss L) (hz : ∀ z ∈ zs, IsName z) (hs : ∀ s ∈ ss, 0 ≤ s ∧ s ≤ 99) (h0 : 0 ≤ s0 ∧ s0 ≤ 99)
    (l1 : 1 ≤ L.length) (l2 : L.length ≤ 24) (z8 : zs.length ≤ 8) (s8 : ss.length ≤ 8) (s1 : 1 ≤ ss.length) (q : ∀ H', Q (.bl true) H') :
    t_k02_3 g (endsQ Q) [a, b, c, d, e, some (.int s0), f, h, some (.ref l), none, none, none, m] H := by
  have ok := dr.ok hz hs
  have w8 : (wordsOf L).length ≤ 8 := Nat.le_trans (words_le dr.wd) z8
  have r8 : ∀ s, (reachL L s).length ≤ 8 := fun s => Nat.le_trans (reach_drawn dr s1) s8
  have len := hL.length
  refine ⟨_, rfl, l, xs, rfl, .inl (SqL.of hl), fun k hk => ?_⟩
  have sk : Same H (upd H k (.lst xs)) := Same.new hk
  show t_k02_4 g (endsQ Q) [a, b, c, d, e, some (.int s0), f, h, some (.ref l), some (.ref k), none, none, m] (upd H k (.lst xs))
  refine s_asg (make_hand (s0 := s0) (w := .ref k) (xs := xs) (L := L) (fun R r => ⟨_, rfl, _, rfl, r⟩) h0 ⟨k, rfl, .inl (SqL.of upd_same)⟩ (StepsAt.mono sk hL) ok dr.fb l1 l2 w8 (r8 s0) fun x H1 sx nx hx => ?_)
  have hk1 : H1 k = some (.lst xs) := sx _ _ upd_same
  have hl1 : H1 l = some (.lst xs) := sx _ _ (sk _ _ hl)
  have hL1 := StepsAt.mono (sk.trans sx) hL
  refine ⟨_, rfl, _, rfl, .list (L.map stepD), .list (L.map stepD), .lst (SqL.of hk1) (dp_steps hL1), .lst (SqL.of hl1) (dp_steps hL1), ?_, ?_, _, rfl, ?_⟩
  · exact steps_shaped ok
  · exact steps_shaped ok
  have ee : PyData.eqv (.list (L.map stepD)) (.list (L.map stepD)) = true := by unfold PyData.eqv; exact steps_eqv L
  rw [ee]
  refine iteF ⟨_, rfl, _, rfl, _, rfl, x, s0, l, xs, L, rfl, hx, SqL.of hl1, hL1, by omega, Nat.le_trans (r8 s0) (by decide), fun H2 s2 => ⟨true, rfl, iteF ?_⟩⟩
  have hk2 := s2 _ _ hk1
  have hl2 := s2 _ _ hl1
  have hL2 := StepsAt.mono s2 hL1
  have hx2 := HandAt.mono s2 hx
  have nkl : l ≠ k := ne_of_none hl hk
  refine ⟨_, rfl, .inl ⟨rfl, _, SqL.of hk2⟩, k, xs, rfl, rfl, hk2, ?_⟩
  generalize hH3 : upd H2 k (.lst []) = H3
  have hk3 : H3 k = some (.lst []) := by rw [← hH3]; exact upd_same
  have hl3 : H3 l = some (.lst xs) := by rw [← hH3, upd_ne nkl]; exact hl2
  have hL3 : StepsAt g.K H3 xs L := by rw [← hH3]; exact steps_upd hk2 lst_nt hL2
  have hx3 : HandAt g H3 x s0 L := by rw [← hH3]; exact HandAt.upd hk2 hx2
  refine ⟨_, rfl, .inl ⟨rfl, _, SqL.of hk3⟩, by show 3 ≤ sizeLine; decide, fun t ht => ?_⟩
  have s4 : Same H3 (upd H3 t (.tup [.int 0, .str "z", .int 1])) := Same.new ht
  refine ⟨k, [], .ref t, rfl, rfl, s4 _ _ hk3, by show 0 < sizeLine; decide, ?_⟩
  generalize hH5 : upd (upd H3 t (.tup [.int 0, .str "z", .int 1])) k (.lst ([] ++ [.ref t])) = H5
  have hl5 : H5 l = some (.lst xs) := by rw [← hH5, upd_ne nkl]; exact s4 _ _ hl3
  have hL5 : StepsAt g.K H5 xs L := by rw [← hH5]; exact steps_upd (s4 _ _ hk3) lst_nt (StepsAt.mono s4 hL3)
  have hx5 : HandAt g H5 x s0 L := by rw [← hH5]; exact HandAt.upd (s4 _ _ hk3) (HandAt.mono s4 hx3)
  obtain ⟨u, xs', ex⟩ : ∃ u xs', xs = u :: xs' := by
    cases xs with
    | nil => rw [List.length_nil] at len; omega
    | cons u r => exact ⟨u, r, rfl⟩
  have hu : xs[0]? = some u := by rw [ex]; rfl
  obtain ⟨st, hst, b1, rfl, hb1⟩ := paired_get hL5 hu
  have stL : st ∈ L := List.mem_of_getElem? hst
  have a0 : atI xs 0 = some (.ref b1) := atI_nat (j := 0) hu
  have hT : ∀ H', Same H5 H' → ∀ (σ : L2.St) (Q : VK), σ[8]? = some (some (.ref l)) → Q (.int st.2.2) H' → tOp (rIxT g.K) (tOp (rIxL g.K) (tVar 8) (tC (.int 0))) (tC (.int 2)) σ H' Q := fun H' s σ Q e q =>
    ⟨_, e, l, xs, 0, _, rfl, rfl, SqL.of (s _ _ hl5), a0, b1, _, 2, .int st.2.2, rfl, rfl, Same.tup s hb1, rfl, q⟩
  show t_k02_5 g (endsQ Q) [a, b, c, d, e, some (.int s0), f, h, some (.ref l), some (.ref k), some (.ref x), none, m] H5
  refine s_asg (make_hand2 (s0 := st.2.2) (xs := xs) (L := L) (fun Q q => hT H5 (Same.refl _) _ _ rfl q) rfl (SqL.of hl5) (hs _ (dr.to st stL)) hL5 ok dr.fb l1 l2 w8 (r8 _) fun y H6 s6 hy => ?_)
  show t_k02_6 g (endsQ Q) [a, b, c, d, e, some (.int s0), f, h, some (.ref l), some (.ref k), some (.ref x), some (.ref y), m] H6
  refine ⟨_, rfl, hT H6 s6 _ _ rfl ?_⟩
  refine ⟨_, rfl, y, st.2.2, l, xs, L, rfl, hy, SqL.of (s6 _ _ hl5), StepsAt.mono s6 hL5, by omega, Nat.le_trans (r8 _) (by decide), fun H7 s7 => ⟨true, rfl, iteT ?_⟩⟩
  exact ⟨_, rfl, _, rfl, _, rfl, x, s0, l, xs, L, rfl, HandAt.mono (s6.trans s7) hx5, SqL.of (s7 _ _ (s6 _ _ hl5)), StepsAt.mono (s6.trans s7) hL5, by omega, Nat.le_trans (r8 _) (by decide), fun H8 _ => q H8⟩
theorem pure_k02_2 {g : Ga} {H0 H : Hp} {c d m : Option V} {a p st : Addr} {ns : List Int} {o : HO} {s0 : Int} {ss : List Int} {Q : VK} (ha : SqL g.K H0 a (ns.map V.int)) (sm : Same H0 H) (np : H0 p = none) (hp : H p = some o) (po : PoolO o) (hst : H st = some (.lst (ss.map V.int))) (nps : p ≠ st)
    (hs : ∀ s ∈ ss, 0 ≤ s ∧ s ≤ 99) (h0 : 0 ≤ s0 ∧ s0 ≤ 99) (s8 : ss.length ≤ 8) (s1 : 1 ≤ ss.length) (q : ∀ H', Q (.bl true) H') :
    t_k02_2 g (endsQ Q) [some (.ref a), some (.ref p), c, d, some (.ref st), some (.int s0), none, none, none, none, none, none, m] H := by
  refine s_asg (e_op (e_cst (draw_c rfl hp po (by decide) (by decide) fun d1 o1 b1 po1 => ⟨_, _, rfl, rfl, ?_⟩)))
  have sm1 : Same H0 (upd H p o1) := Same.own sm np
  have st1 : (upd H p o1) st = some (.lst (ss.map V.int)) := by rw [upd_ne nps.symm]; exact hst
  have e1 : (1 : Int) + (d1 : Int) = ((1 + d1 : Nat) : Int) := by omega
  show t_k02_2b g (endsQ Q) [some (.ref a), some (.ref p), c, d, some (.ref st), some (.int s0), some (.int ((1 : Int) + (d1 : Int))), none, none, none, none, none, m] (upd H p o1)
  rw [e1]
  refine s_asg (e_call2 rfl (e_op (e_cst (draw_c rfl upd_same po1 (by decide) (by decide) fun d2 o2 b2 po2 => ⟨_, _, rfl, rfl, ?_⟩))))
  rw [upd_upd]
  have sm2 : Same H0 (upd H p o2) := Same.own sm np
  have st2 : (upd H p o2) st = some (.lst (ss.map V.int)) := by rw [upd_ne nps.symm]; exact hst
  refine ⟨p, o2, 1 + d2, by show [V.ref p, V.int ((1 : Int) + (d2 : Int))] = _; rw [show (1 : Int) + (d2 : Int) = ((1 + d2 : Nat) : Int) by omega], upd_same, po2, by omega, fun n zs o3 H3 ch3 hp3 po3 nn hn3 zl hz nd => ?_⟩
  have sm3 : Same H0 H3 := fun b u e => ch3 b u (sm2 b u e) (by simp; exact ne_of_none e np)
  have st3 : H3 st = some (.lst (ss.map V.int)) := ch3 _ _ st2 (by simp; exact nps.symm)
  show t_k02_2c g (endsQ Q) [some (.ref a), some (.ref p), c, d, some (.ref st), some (.int s0), some (.int ((1 + d1 : Nat) : Int)), some (.ref n), none, none, none, none, m] H3
  refine ⟨_, rfl, a, ns, 1, rfl, sm3.seq ha, by decide, cellV ns 1, rfl, fun p2 o4 po4 np2 => ?_⟩
  have s4 : Same H3 (upd H3 p2 o4) := Same.new np2
  refine ⟨_, rfl, _, rfl, _, rfl, p2, n, st, 1 + d1, o4, zs, ss, rfl, upd_same, po4, SqL.of (s4 _ _ hn3), SqL.of (s4 _ _ st3), (ne_of_none hn3 np2).symm, (ne_of_none st3 np2).symm, ?_, ?_, hz, hs, by omega, by omega, by omega, fun l xs L o5 H5 ch5 hp5 po5 nl hl5 hL5 dr ll l1 => ?_⟩
  · intro e; rw [e, List.length_nil] at zl; omega
  · intro e; rw [e, List.length_nil] at s1; omega
  exact pure_k02_3 hl5 hL5 dr hz hs h0 (l1 (by omega)) (by omega) (by omega) s8 s1 q
/-- the states: n numbers below 98 -/
theorem lc_states {σ : L2.St} {H : Hp} {Q : VK} {c f e : Nat} {ti : TA} {fi ga : Int} (G : Nat → Hp → Prop) (ht : ∀ R : List V → Hp → Prop, (∀ (n : Nat) H1, G n H1 → R [.int (n : Int)] H1) → ti σ H R) (h1 : σ[f]? = some (some (.int fi))) (h2 : σ[e]? = some (some (.int ga))) (hc : c < σ.length) (nf : f ≠ c) (ne : e ≠ c) (b0 : 0 ≤ ga) (b1 : ga ≤ 33) (hG : ∀ n H1, G n H1 → n ≤ 1000)
    (q : ∀ n H1 D H' (ss : List Int), G n H1 → Same H1 H' → H1 D = none → H' D = some (.lst (ss.map V.int)) → ss.length = n → (∀ s ∈ ss, 0 ≤ s ∧ s < 98) → Q (.ref D) H') :
    tLc (iRng1 ti) (gName c) tYes (tOp rMod (tCB rInt1 (tCons (tOp rAdd (tVar f) (tOp rMul (tVar e) (tVar c))) tNil)) (tC (.int 98))) [c] σ H Q := by
  refine ht _ fun n H1 gn => ?_
  have hn := hG n H1 gn
  refine ⟨n, rfl, by omega, by omega, fun D hD => ?_⟩
  rw [Int.toNat_natCast]
  refine lc_range (n := n) (fun i H' => Same H1 H' ∧ ∃ ss : List Int, H' D = some (.lst (ss.map V.int)) ∧ ss.length = i ∧ ∀ s ∈ ss, 0 ≤ s ∧ s < 98) ⟨Same.new hD, [], upd_same, rfl, fun s h => by cases h⟩ ?_ ?_
  · rintro i H' hi ⟨sm, ss, hy, hl, hs⟩
    refine ⟨blk_set _ hc, ?_⟩
    have o1 : ((wipe σ [c]).set c (some (V.int (0 + (i : Int)))))[f]? = some (some (.int fi)) := by rw [blk_out nf]; exact h1
    have o2 : ((wipe σ [c]).set c (some (V.int (0 + (i : Int)))))[e]? = some (some (.int ga)) := by rw [blk_out ne]; exact h2
    have o3 := blk_own (σ := σ) (some (V.int (0 + (i : Int)))) hc
    refine ⟨_, o1, _, o2, _, o3, _, _, rfl, rfl, .inl ⟨by omega, by omega⟩, _, _, rfl, rfl, .inl ⟨_, rfl, _, _, rfl, rfl, (show (0 : Int) < 98 by decide), _, hy, ?_, Same.own sm hD, ss ++ [(fi + ga * (0 + (i : Int))) % 98], ?_, ?_, ?_⟩⟩
    · rw [List.length_map]; exact small1000 (by omega)
    · rw [upd_same, List.map_append]; rfl
    · rw [List.length_append, hl]; rfl
    · intro s h
      rcases List.mem_append.mp h with z | z
      · exact hs s z
      · rw [List.mem_singleton.mp z]; omega
  · rintro H' ⟨sm, ss, hy, hl, hs⟩
    exact q n H1 D H' ss gn sm hD hy hl hs
def sp_k02_law (g : Ga) : Sp := fun vs H Q _ => ∃ (a : Addr) (ns : List Int), vs = [.ref a] ∧ SqL g.K H a (ns.map V.int) ∧ ∀ H', Q (.bl true) H'
theorem pure_k02_law {g : Ga} {vs : List V} {H : Hp} {Q : VK} {E : XK} {N : List Str} (hN : N.length = 13) (h : sp_k02_law g vs H Q E) : t_k02_law g (endsQ Q) (L2.start N vs) H := by
  obtain ⟨a, ns, rfl, ha, q⟩ := h
  have e0 : L2.start N [.ref a] = [some (.ref a), none, none, none, none, none, none, none, none, none, none, none, none] := by
    unfold L2.start; rw [hN]; rfl
  rw [e0]
  refine ⟨_, rfl, a, ns, 0, rfl, ha, by decide, cellV ns 0, rfl, fun p o po np => ?_⟩
  refine s_asg (draw_c rfl upd_same po (by decide) (by decide) fun d1 o1 b1 po1 => ?_)
  rw [upd_upd]
  show t_k02_1b g (endsQ Q) [some (.ref a), some (.ref p), some (.int d1), none, none, none, none, none, none, none, none, none, none] (upd H p o1)
  have sm1 : Same H (upd H p o1) := Same.new np
  refine s_asg (e_op ⟨by show 7 ≤ sizeLine; decide, fun l hl => ?_⟩)
  have npl : p ≠ l := ne_of_none upd_same hl
  refine draw_c rfl (o := o1) (by rw [upd_ne npl]; exact upd_same) po1 (by decide) (by decide) fun d2 o2 b2 po2 => ?_
  have gv : ∃ ga : Int, ([V.int 1, .int 3, .int 7, .int 9, .int 11, .int 13, .int 33] : List V)[d2]? = some (.int ga) ∧ 0 ≤ ga ∧ ga ≤ 33 := by
    have : d2 = 0 ∨ d2 = 1 ∨ d2 = 2 ∨ d2 = 3 ∨ d2 = 4 ∨ d2 = 5 ∨ d2 = 6 := by omega
    rcases this with e | e | e | e | e | e | e <;> subst e <;> exact ⟨_, rfl, by decide, by decide⟩
  obtain ⟨ga, hga, g0, g1⟩ := gv
  refine ⟨l, _, _, .int ga, rfl, rfl, SqL.of (by rw [upd_ne npl.symm]; exact upd_same), atI_nat hga, ?_⟩
  generalize hH2 : upd (upd (upd H p o1) l _) p o2 = H2
  have sm2 : Same H H2 := by rw [← hH2]; exact Same.own (Same.own sm1 (sm1.free hl)) np
  have hp2 : H2 p = some o2 := by rw [← hH2]; exact upd_same
  show t_k02_1c g (endsQ Q) [some (.ref a), some (.ref p), some (.int d1), some (.int ga), none, none, none, none, none, none, none, none, none] H2
  refine s_asg (lc_states (fun n H3 => 1 ≤ n ∧ n ≤ 8 ∧ ∃ o3, PoolO o3 ∧ H3 = upd H2 p o3) (fi := d1) (ga := ga) (fun R r => draw_c (m := 8) rfl hp2 po2 (by decide) (by decide) fun d3 o3 b3 po3 => ⟨_, _, rfl, rfl, ?_⟩) rfl rfl (by show 12 < 13; decide) (by decide) (by decide) g0 g1 (fun n _ z => by omega) ?_)
  · have e3 : (1 : Int) + (d3 : Int) = ((1 + d3 : Nat) : Int) := by omega
    show R [.int ((1 : Int) + (d3 : Int))] _
    rw [e3]
    exact r _ _ ⟨by omega, by omega, o3, po3, rfl⟩
  rintro n H3' st H4 ss ⟨n1, n8, o3, po3, rfl⟩ s4 nst hst sl hss
  have sm4 : Same H H4 := (Same.own sm2 np).trans s4
  have hp4 : H4 p = some o3 := s4 _ _ upd_same
  have nps : p ≠ st := ne_of_none upd_same nst
  have hs99 : ∀ s ∈ ss, 0 ≤ s ∧ s ≤ 99 := fun s h => ⟨(hss s h).1, by have := (hss s h).2; omega⟩
  show t_k02_1d g (endsQ Q) [some (.ref a), some (.ref p), some (.int d1), some (.int ga), some (.ref st), none, none, none, none, none, none, none, none] H4
  refine s_asg (pick (xs := ss.map V.int) rfl rfl (SqL.of hst) hp4 po3 nps.symm (by rw [List.length_map]; omega) (by rw [List.length_map]; omega) fun k5 v5 o5 e5 po5 => ?_)
  obtain ⟨s0, hs0, rfl⟩ := map_get e5
  have h0 := hs99 _ (List.mem_of_getElem? hs0)
  show t_k02_1e g (endsQ Q) [some (.ref a), some (.ref p), some (.int d1), some (.int ga), some (.ref st), some (.int s0), none, none, none, none, none, none, none] (upd H4 p o5)
  have go : ∀ (s0 : Int) (o6 : HO), 0 ≤ s0 ∧ s0 ≤ 99 → PoolO o6 → t_k02_2 g (endsQ Q) [some (.ref a), some (.ref p), some (.int d1), some (.int ga), some (.ref st), some (.int s0), none, none, none, none, none, none, none] (upd H4 p o6) := fun s0 o6 h0 po6 =>
    pure_k02_2 ha (Same.own sm4 np) np upd_same po6 (by rw [upd_ne nps.symm]; exact hst) nps hs99 h0 (by omega) (by omega) q
  refine s_if (t_test (draw_c rfl upd_same po5 (by decide) (by decide) fun d6 o6 b6 po6 => ?_))
  rw [upd_upd]
  refine ⟨rfl, _, rfl, ite2 (fun _ => ?_) fun _ => go s0 o6 h0 po6⟩
  refine draw_c rfl upd_same po6 (by decide) (by decide) fun d7 o7 b7 po7 => ⟨_, _, rfl, rfl, ?_⟩
  rw [upd_upd]
  exact go _ o7 ⟨by omega, by omega⟩ po7
end Sd
namespace Sd
open PySem PySem.Spec PyProof.Rows L2
/-! ### _law_steps -/
def sp_law_steps (g : Ga) : Sp := fun vs H Q _ => ∃ (p n st : Addr) (m : Nat) (o : HO) (zs : List Str) (ss : List Int), vs = [.ref p, .ref n, .ref st, .int m] ∧ H p = some o ∧ PoolO o ∧ SqL g.K H n (zs.map V.str) ∧ SqL g.K H st (ss.map V.int) ∧ p ≠ n ∧ p ≠ st ∧
  zs ≠ [] ∧ ss ≠ [] ∧ (∀ z ∈ zs, IsName z) ∧ (∀ s ∈ ss, 0 ≤ s ∧ s ≤ 99) ∧ zs.length ≤ 100 ∧ ss.length ≤ 100 ∧ m ≤ 24 ∧
  ∀ (l : Addr) (xs : List V) (L : List Step) (o' : HO) (H' : Hp), Ch [p] H H' → H' p = some o' → PoolO o' → H l = none → H' l = some (.lst xs) → StepsAt g.K H' xs L → Drawn zs ss L → L.length ≤ m → (1 ≤ m → 1 ≤ L.length) → Q (.ref l) H'
def t_law_steps (g : Ga) : TS := (tSeq (tAsg (tLst tNil) (gName 4)) (tSeq (tFor (iRng1 (tCons (tVar 3) tNil)) (gName 5) (tSeq (tAsg (tOp (rIxL g.K) (tVar 2) (tCall (sp_law_draw g) [] E0 (tCons (tVar 0) (tCons (tCB (rLenS g.K) (tCons (tVar 2) tNil)) tNil)))) (gName 6)) (tSeq (tAsg (tOp (rIxL g.K) (tVar 1) (tCall (sp_law_draw g) [] E0 (tCons (tVar 0) (tCons (tCB (rLenS g.K) (tCons (tVar 1) tNil)) tNil)))) (gName 7)) (tSeq (tAsg (tTup (tCons (tVar 6) (tCons (tVar 7) (tCons (tOp (rIxL g.K) (tVar 2) (tCall (sp_law_draw g) [] E0 (tCons (tVar 0) (tCons (tCB (rLenS g.K) (tCons (tVar 2) tNil)) tNil)))) tNil)))) (gName 8)) (tIfS (tAnd (tTest (tOp (rNotInD g.K) (tVar 8) (tVar 4))) (tTest (tOp rLt (tCB (rLenS g.K) (tCons (tLc (iList g.K (tVar 4)) (gName 9) (tTest (tOp rEq (tOp (rIxT g.K) (tVar 9) (tC (.int 0))) (tVar 6))) (tVar 9) [9]) tNil)) (tC (.int 4))))) (tDrop (tBM g.K "list" rApp (tVar 4) (tCons (tVar 8) tNil))) tNext))))) (tRet (tVar 4))))
theorem pure_law_steps {g : Ga} {vs : List V} {H : Hp} {Q : VK} {E : XK} {N : List Str} (hN : N.length = 10) (h : sp_law_steps g vs H Q E) : t_law_steps g (endsQ Q) (L2.start N vs) H := by
  obtain ⟨p, n, st, m, o, zs, ss, rfl, hp, po, hn, hst, npn, nps, zne, sne, hz, hss, zl, sl, hm, q⟩ := h
  have e0 : L2.start N [.ref p, .ref n, .ref st, .int m] = [some (.ref p), some (.ref n), some (.ref st), some (.int m), none, none, none, none, none, none] := by
    unfold L2.start; rw [hN]; rfl
  rw [e0]
  have z0 : 0 < (zs.map V.str).length := by rw [List.length_map]; exact List.length_pos_iff.mpr zne
  have s0 : 0 < (ss.map V.int).length := by rw [List.length_map]; exact List.length_pos_iff.mpr sne
  have z1 : (zs.map V.str).length ≤ 1000 := by rw [List.length_map]; omega
  have s1 : (ss.map V.int).length ≤ 1000 := by rw [List.length_map]; omega
  refine ⟨by show 0 ≤ sizeLine; decide, fun l hl => ?_⟩
  have npl : p ≠ l := ne_of_none hp hl
  refine ⟨_, rfl, _, rfl, by omega, by omega, for_range (n := m) (fun i σ H' => ∃ (xs : List V) (L : List Step) (o' : HO) (a b c d e : Option V), σ = [some (.ref p), some (.ref n), some (.ref st), some (.int m), some (.ref l), a, b, c, d, e] ∧ Ch [p] H H' ∧ H' p = some o' ∧ PoolO o' ∧ H' l = some (.lst xs) ∧ StepsAt g.K H' xs L ∧ Drawn zs ss L ∧ L.length ≤ i ∧ (1 ≤ i → 1 ≤ L.length))
    ⟨[], [], o, none, none, none, none, none, rfl, (Ch.refl H).own hl, (by rw [upd_ne npl]; exact hp), po, upd_same, .nil, Drawn.nil zs ss, Nat.le_refl _, by omega⟩ ?_ ?_⟩
  · rintro i σ H1 hi ⟨xs, L, o1, a, b, c, d, e, rfl, ch, hp1, po1, hl1, hL, dr, li, l1⟩
    have sq : ∀ {a ys} {H' : Hp}, Ch [p] H H' → a ≠ p → SqL g.K H a ys → SqL g.K H' a ys := fun {a ys H'} ch ne h => by
      rcases h with (h | ⟨u, h⟩) | h
      · exact .inl (.inl (ch _ _ h (by simpa using ne)))
      · exact .inl (.inr ⟨u, ch _ _ h (by simpa using ne)⟩)
      · exact .inr h
    have okL := dr.ok hz hss
    refine pick (xs := ss.map V.int) rfl rfl (sq ch nps.symm hst) hp1 po1 nps.symm s0 s1 fun k1 v1 o2 e1 po2 => ?_
    obtain ⟨lv, hlv, rfl⟩ := map_get e1
    have ch2 : Ch [p] H (upd H1 p o2) := ch.at (by simp)
    refine s_asg (pick (xs := zs.map V.str) rfl rfl (sq ch2 npn.symm hn) upd_same po2 npn.symm z0 z1 fun k2 v2 o3 e2 po3 => ?_)
    obtain ⟨wd, hwd, rfl⟩ := map_get e2
    rw [upd_upd]
    have ch3 : Ch [p] H (upd H1 p o3) := ch.at (by simp)
    refine ⟨_, rfl, _, rfl, ?_⟩
    refine pick (xs := ss.map V.int) rfl rfl (sq ch3 nps.symm hst) upd_same po3 nps.symm s0 s1 fun k3 v3 o4 e3 po4 => ?_
    obtain ⟨to, hto, rfl⟩ := map_get e3
    rw [upd_upd]
    have ch4 : Ch [p] H (upd H1 p o4) := ch.at (by simp)
    have hL4 : StepsAt g.K (upd H1 p o4) xs L := steps_upd hp1 (pool_nt po1) hL
    have hl4 : (upd H1 p o4) l = some (.lst xs) := by rw [upd_ne npl.symm]; exact hl1
    refine ⟨by show 3 ≤ sizeLine; decide, fun t ht => ?_⟩
    generalize hH5 : upd (upd H1 p o4) t (.tup [.int lv, .str wd, .int to]) = H5
    have s5 : Same (upd H1 p o4) H5 := by rw [← hH5]; exact Same.new ht
    have ch5 : Ch [p] H H5 := by rw [← hH5]; exact ch4.new ht
    have hp5 : H5 p = some o4 := s5 _ _ upd_same
    have hl5 := s5 _ _ hl4
    have hL5 := StepsAt.mono s5 hL4
    have sIn : okStep (lv, wd, to) := ⟨hss _ (List.mem_of_getElem? hlv), hz _ (List.mem_of_getElem? hwd), hss _ (List.mem_of_getElem? hto)⟩
    have hst5 : StepAt g.K H5 (.ref t) (lv, wd, to) := ⟨t, rfl, SqT.of (by rw [← hH5]; exact upd_same)⟩
    refine ⟨_, rfl, _, rfl, stepD (lv, wd, to), _, dp_step hst5, .lst (SqL.of hl5) (dp_steps hL5), step_shaped sIn, steps_shaped okL, _, rfl, ?_⟩
    rw [any_step]
    have skip : ∀ (H6 : Hp) (x : Option V), Same H5 H6 → L ≠ [] → (∃ (xs : List V) (L : List Step) (o' : HO) (a b c d e : Option V), [some (V.ref p), some (V.ref n), some (V.ref st), some (V.int m), some (V.ref l), some (V.int (0 + (i : Int))), some (V.int lv), some (V.str wd), some (V.ref t), x] = [some (.ref p), some (.ref n), some (.ref st), some (.int m), some (.ref l), a, b, c, d, e] ∧ Ch [p] H H6 ∧ H6 p = some o' ∧ PoolO o' ∧ H6 l = some (.lst xs) ∧ StepsAt g.K H6 xs L ∧ Drawn zs ss L ∧ L.length ≤ i + 1 ∧ (1 ≤ i + 1 → 1 ≤ L.length)) := fun H6 x s6 ne =>
      ⟨xs, L, o4, _, _, _, _, _, rfl, ch5.trans (Ch.same s6), s6 _ _ hp5, po4, s6 _ _ hl5, StepsAt.mono s6 hL5, dr, by omega, fun _ => List.length_pos_iff.mpr ne⟩
    by_cases c1 : (lv, wd, to) ∈ L
    · rw [decide_eq_true c1]
      exact iteF (skip H5 _ (Same.refl _) fun e => by rw [e] at c1; cases c1)
    · rw [decide_eq_false c1]
      refine iteT ?_
      refine t_test (len_leave (l := l) (xs := xs) (L := L) (s := lv) rfl rfl (show 9 < 10 by decide) (by decide) (SqL.of hl5) hL5 (by omega) fun H6 s6 => ?_)
      refine ⟨_, _, rfl, rfl, _, rfl, ?_⟩
      by_cases c2 : leavingN L lv < 4
      · rw [decide_eq_true (show ((leavingN L lv : Nat) : Int) < 4 by omega)]
        have hl6 := s6 _ _ hl5
        refine iteT ⟨_, rfl, .inl ⟨rfl, _, SqL.of hl6⟩, _, rfl, l, _, _, rfl, rfl, hl6, ?_, ?_⟩
        · have := hL.length
          exact small1000 (by omega)
        · refine ⟨xs ++ [.ref t], L ++ [(lv, wd, to)], o4, _, _, _, _, _, rfl, (ch5.trans (Ch.same s6)).own hl, (by rw [upd_ne npl]; exact s6 _ _ hp5), po4, upd_same, ?_, dr.snoc c1 c2 (List.mem_of_getElem? hwd) (List.mem_of_getElem? hlv) (List.mem_of_getElem? hto), by simp; omega, fun _ => by simp⟩
          exact paired_app (steps_upd hl6 lst_nt (StepsAt.mono s6 hL5)) (.cons (let ⟨b, e, z⟩ := StepAt.mono s6 hst5; ⟨b, e, sqT_upd hl6 lst_nt.1 lst_nt.2 z⟩) .nil)
      · rw [decide_eq_false (show ¬ ((leavingN L lv : Nat) : Int) < 4 by omega)]
        exact iteF (skip H6 _ s6 fun e => by rw [e] at c2; exact c2 (show 0 < 4 by decide))
  · rintro σ H1 ⟨xs, L, o1, a, b, c, d, e, rfl, ch, hp1, po1, hl1, hL, dr, li, l1⟩
    exact ⟨_, rfl, q l xs L o1 H1 ch hp1 po1 hl hl1 hL dr li l1⟩
end Sd
namespace Sd
open PySem PySem.Spec PyProof.Rows L2
/-! ### a row of the law: a start and a list of steps -/
structure RowAt (K : PySem.W.Frag) (H : Hp) (v : V) (r : Int × List Step) : Prop where
  ex : ∃ (a l : Addr) (xs : List V), v = .ref a ∧ H a = some (.tup [.int r.1, .ref l]) ∧ H l = some (.lst xs) ∧ StepsAt K H xs r.2
theorem RowAt.mono {K : PySem.W.Frag} {H H' : Hp} {v : V} {r : Int × List Step} (s : Same H H') (h : RowAt K H v r) : RowAt K H' v r := by
  obtain ⟨a, l, xs, h0, h1, h2, h3⟩ := h.ex
  exact ⟨a, l, xs, h0, s _ _ h1, s _ _ h2, StepsAt.mono s h3⟩
/-- the same, of its list P -/
structure RowP (K : PySem.W.Frag) (P : Addr → Prop) (H : Hp) (v : V) (r : Int × List Step) : Prop where
  ex : ∃ (a l : Addr) (xs : List V), v = .ref a ∧ P l ∧ H a = some (.tup [.int r.1, .ref l]) ∧ H l = some (.lst xs) ∧ StepsAt K H xs r.2
theorem RowP.mono {K : PySem.W.Frag} {P : Addr → Prop} {H H' : Hp} {v : V} {r : Int × List Step} (s : Same H H') (h : RowP K P H v r) : RowP K P H' v r := by
  obtain ⟨a, l, xs, h0, hp, h1, h2, h3⟩ := h.ex
  exact ⟨a, l, xs, h0, hp, s _ _ h1, s _ _ h2, StepsAt.mono s h3⟩
theorem RowP.imp {K : PySem.W.Frag} {P P' : Addr → Prop} {H : Hp} {v : V} {r : Int × List Step} (s : ∀ l, P l → P' l) (h : RowP K P H v r) : RowP K P' H v r := let ⟨a, l, xs, h0, hp, h1⟩ := h; ⟨a, l, xs, h0, s _ hp, h1⟩
theorem RowP.row {K : PySem.W.Frag} {P : Addr → Prop} {H : Hp} {v : V} {r : Int × List Step} (h : RowP K P H v r) : RowAt K H v r := let ⟨a, l, xs, h0, _, h1⟩ := h; ⟨a, l, xs, h0, h1⟩
/-- another list is written -/
theorem RowP.upd {K : PySem.W.Frag} {p : Addr} {H : Hp} {v : V} {r : Int × List Step} {ys : List V} {u : HO} (hp : H p = some (.lst ys)) (h : RowP K (fun l => l ≠ p) H v r) : RowP K (fun l => l ≠ p) (L2.upd H p u) v r := by
  obtain ⟨a, l, xs, h0, hl, h1, h2, h3⟩ := h.ex
  exact ⟨a, l, xs, h0, hl, by rw [upd_ne (ne_of h1 hp fun z => by cases z)]; exact h1, by rw [upd_ne hl]; exact h2, steps_upd hp lst_nt h3⟩
structure GoodRow (zs : List Str) (ms : Nat) (r : Int × List Step) : Prop where
  ex : ∃ ss : List Int, Drawn zs ss r.2 ∧ (∀ s ∈ ss, 0 ≤ s ∧ s ≤ 99) ∧ ss.length ≤ ms ∧ r.1 ∈ ss
  l1 : 1 ≤ r.2.length
  l2 : r.2.length ≤ 24
/-- a list over a range, each item a number -/
theorem lc_rngI {σ : L2.St} {H : Hp} {Q : VK} {c : Nat} {ti : TA} {te : TE} (f : Nat → Int) (G : Nat → Hp → Prop) (ht : ∀ R : List V → Hp → Prop, (∀ (n : Nat) H1, G n H1 → R [.int (n : Int)] H1) → ti σ H R) (hc : c < σ.length) (hG : ∀ n H1, G n H1 → n ≤ 1000)
    (he : ∀ (i : Nat) (H' : Hp) (Q : VK), i ≤ 1000 → Q (.int (f i)) H' → te ((wipe σ [c]).set c (some (.int (0 + (i : Int))))) H' Q)
    (q : ∀ n H1 D H', G n H1 → Same H1 H' → H1 D = none → H' D = some (.lst (((List.range n).map f).map V.int)) → Q (.ref D) H') :
    tLc (iRng1 ti) (gName c) tYes te [c] σ H Q := by
  refine ht _ fun n H1 gn => ?_
  have hn := hG n H1 gn
  refine ⟨n, rfl, by omega, by omega, fun D hD => ?_⟩
  rw [Int.toNat_natCast]
  refine lc_range (n := n) (fun i H' => Same H1 H' ∧ H' D = some (.lst (((List.range i).map f).map V.int))) ⟨Same.new hD, upd_same⟩ ?_ ?_
  · rintro i H' hi ⟨sm, hy⟩
    refine ⟨blk_set _ hc, he i H' _ (by omega) ⟨_, hy, ?_, Same.own sm hD, ?_⟩⟩
    · rw [List.length_map, List.length_map, List.length_range]; exact small1000 (by omega)
    · rw [upd_same, List.range_succ, List.map_append, List.map_append]; rfl
  · rintro H' ⟨sm, hy⟩
    exact q n H1 D H' gn sm hD hy
/-- len([one for one in steps if one[0] == x]) -/
theorem len_leaveX {g : Ga} {σ : L2.St} {H : Hp} {Q : VK} {sl c : Nat} {tx : TE} {l : Addr} {xs : List V} {L : List Step} {s : Int} (h1 : σ[sl]? = some (some (.ref l))) (h2 : ∀ (H' : Hp) (Q : VK) (a : Addr), Same H H' → Q (.int s) H' → tx ((wipe σ [c]).set c (some (.ref a))) H' Q) (hc : c < σ.length) (hs : SqL g.K H l xs) (hL : StepsAt g.K H xs L) (few : L.length ≤ 1000)
    (q : ∀ H', Same H H' → Q (.int (leavingN L s)) H') :
    tCB (rLenS g.K) (tCons (tLc (iList g.K (tVar sl)) (gName c) (tTest (tOp rEq (tOp (rIxT g.K) (tVar c) (tC (.int 0))) tx)) (tVar c) [c]) tNil) σ H Q := by
  have hlen := hL.length
  refine ⟨_, h1, l, rfl, ⟨_, hs⟩, fun D hD => ?_⟩
  refine lc_list (K := g.K) (a := l) (xs := xs) (fun i H' => Same H H' ∧ ∃ ys, H' D = some (.lst ys) ∧ ys.length = leavingN (L.take i) s) ⟨Same.new hD, [], upd_same, rfl⟩ (fun i H' _ z => z.1.seq hs) ?_ ?_
  · rintro i x H' hx ⟨sm, ys, hy, hl⟩
    obtain ⟨t, ht, a, rfl, st⟩ := paired_get hL hx
    refine ⟨blk_set _ hc, ?_⟩
    refine ⟨_, blk_own _ hc, a, _, _, .int t.1, rfl, rfl, Same.tup sm st, rfl, h2 H' _ a sm ⟨rfl, _, rfl, ?_⟩⟩
    have ex : leavingN (L.take (i + 1)) s = leavingN (L.take i) s + if t.1 = s then 1 else 0 := by
      unfold leavingN
      rw [List.take_add_one, ht, Option.toList_some, List.filter_append, List.length_append]
      by_cases h : t.1 = s
      · simp [h]
      · simp [h]
    have lys : ys.length ≤ 1000 := by
      rw [hl]; unfold leavingN
      have h1 := List.length_filter_le (fun t : Step => decide (t.1 = s)) (L.take i)
      have h2 : (L.take i).length ≤ L.length := by rw [List.length_take]; omega
      omega
    by_cases h : t.1 = s
    · have e : decide (V.int t.1 = V.int s) = true := decide_eq_true (by rw [h])
      rw [e]
      refine iteT ⟨_, blk_own _ hc, ys, hy, small1000 lys, ?_⟩
      refine ⟨Same.own sm hD, ys ++ [.ref a], upd_same, ?_⟩
      rw [ex, if_pos h, List.length_append, hl]; rfl
    · have e : decide (V.int t.1 = V.int s) = false := decide_eq_false (fun z => h (by injection z))
      rw [e]
      refine iteF ⟨sm, ys, hy, ?_⟩
      rw [ex, if_neg h, hl]; rfl
  · rintro H' ⟨sm, ys, hy, hl⟩
    rw [hlen, List.take_length] at hl
    exact ⟨D, ys, rfl, .inl (SqL.of hy), by rw [hl]; exact q H' sm⟩
def sp_law_hand (g : Ga) : Sp := fun vs H Q _ => ∃ (p n : Addr) (ms mt : Nat) (o : HO) (zs : List Str), vs = [.ref p, .ref n, .int ms, .int mt] ∧ H p = some o ∧ PoolO o ∧ H n = some (.lst (zs.map V.str)) ∧ p ≠ n ∧ zs ≠ [] ∧ (∀ z ∈ zs, IsName z) ∧ zs.length ≤ 100 ∧ 1 ≤ ms ∧ ms ≤ 8 ∧ 1 ≤ mt ∧ mt ≤ 24 ∧
  ∀ (v : V) (r : Int × List Step) (o' : HO) (H' : Hp), Ch [p] H H' → H' p = some o' → PoolO o' → RowP g.K (fun l => H l = none) H' v r → GoodRow zs ms r → Q v H'

def t_lh_4 (g : Ga) : TS := (tSeq (tFor (iList g.K (tCall (sp_law_steps g) [] E0 (tCons (tVar 0) (tCons (tVar 1) (tCons (tVar 7) (tCons (tOp rAdd (tC (.int 1)) (tCall (sp_law_draw g) [] E0 (tCons (tVar 0) (tCons (tVar 3) tNil)))) tNil)))))) (gName 12) (tSeq (tAsg (tCB (rLenS g.K) (tCons (tLc (iList g.K (tVar 9)) (gName 14) (tTest (tOp rEq (tOp (rIxT g.K) (tVar 14) (tC (.int 0))) (tOp (rIxT g.K) (tVar 12) (tC (.int 0))))) (tVar 14) [14]) tNil)) (gName 13)) (tIfS (tAnd (tTest (tOp (rNotInD g.K) (tVar 12) (tVar 9))) (tAnd (tTest (tOp rLt (tVar 13) (tC (.int 4)))) (tTest (tOp rLt (tCB (rLenS g.K) (tCons (tVar 9) tNil)) (tVar 3))))) (tDrop (tBM g.K "list" rApp (tVar 9) (tCons (tVar 12) tNil))) tNext))) (tRet (tTup (tCons (tVar 8) (tCons (tVar 9) tNil)))))
def t_lh_3 (g : Ga) : TS := (tSeq (tIfS (tTest (tOp rGt (tVar 4) (tC (.int 0)))) (tFor (iRng1 (tCons (tCB (rLenS g.K) (tCons (tVar 7) tNil)) tNil)) (gName 10) (tSeq (tAsg (tOp (rIxL g.K) (tVar 1) (tCall (sp_law_draw g) [] E0 (tCons (tVar 0) (tCons (tCB (rLenS g.K) (tCons (tVar 1) tNil)) tNil)))) (gName 11)) (tDrop (tBM g.K "list" rApp (tVar 9) (tCons (tTup (tCons (tOp (rIxL g.K) (tVar 7) (tVar 10)) (tCons (tVar 11) (tCons (tOp (rIxL g.K) (tVar 7) (tOp rMod (tCB rInt1 (tCons (tOp rAdd (tVar 10) (tC (.int 1))) tNil)) (tCB (rLenS g.K) (tCons (tVar 7) tNil)))) tNil)))) tNil))))) tNext) (t_lh_4 g))
def t_lh_2 (g : Ga) : TS := (tSeq (tAsg (tOp (rIxL g.K) (tVar 7) (tCall (sp_law_draw g) [] E0 (tCons (tVar 0) (tCons (tCB (rLenS g.K) (tCons (tVar 7) tNil)) tNil)))) (gName 8)) (tSeq (tAsg (tLst tNil) (gName 9)) (t_lh_3 g)))
def t_lh_1 (g : Ga) : TS := (tSeq (tAsg (tLc (iRng1 (tCons (tOp rAdd (tC (.int 1)) (tCall (sp_law_draw g) [] E0 (tCons (tVar 0) (tCons (tVar 2) tNil)))) tNil)) (gName 10) tYes (tOp rAdd (tVar 5) (tOp rMul (tVar 6) (tVar 10))) [10]) (gName 7)) (t_lh_2 g))
def t_law_hand (g : Ga) : TS := (tSeq (tAsg (tCall (sp_law_draw g) [] E0 (tCons (tVar 0) (tCons (tC (.int 3)) tNil))) (gName 4)) (tSeq (tAsg (tCall (sp_law_draw g) [] E0 (tCons (tVar 0) (tCons (tC (.int 79)) tNil))) (gName 5)) (tSeq (tAsg (tOp rAdd (tC (.int 1)) (tCall (sp_law_draw g) [] E0 (tCons (tVar 0) (tCons (tC (.int 3)) tNil)))) (gName 6)) (t_lh_1 g))))

theorem ch_sq {K : PySem.W.Frag} {p a : Addr} {ys : List V} {H H' : Hp} (ch : Ch [p] H H') (ne : a ≠ p) (h : SqL K H a ys) : SqL K H' a ys := by
  rcases h with (h | ⟨u, h⟩) | h
  · exact .inl (.inl (ch _ _ h (by simpa using ne)))
  · exact .inl (.inr ⟨u, ch _ _ h (by simpa using ne)⟩)
  · exact .inr h
theorem ss_get {f k : Int} {n i : Nat} (h : i < n) : ((List.range n).map fun j : Nat => f + k * (0 + (j : Int)))[i]? = some (f + k * (0 + (i : Int))) := by
  rw [List.getElem?_map, List.getElem?_range h]; rfl
/-- from the second loop on -/
theorem pure_lh_4 {g : Ga} {H0 H : Hp} {a b c d e f : Option V} {p n st l : Addr} {o : HO} {zs : List Str} {ss : List Int} {s0 : Int} {ms mt : Nat} {xs : List V} {L : List Step} {Q : VK}
    (np0 : H0 p ≠ none) (ch : Ch [p] H0 H) (hp : H p = some o) (po : PoolO o) (hn : SqL g.K H n (zs.map V.str)) (npn : p ≠ n) (hst : H st = some (.lst (ss.map V.int))) (nps : p ≠ st) (npl : p ≠ l) (nl : H0 l = none) (hl : H l = some (.lst xs)) (hL : StepsAt g.K H xs L) (dr : Drawn zs ss L)
    (zne : zs ≠ []) (hz : ∀ z ∈ zs, IsName z) (z1 : zs.length ≤ 100) (hss : ∀ s ∈ ss, 0 ≤ s ∧ s ≤ 99) (s1 : 1 ≤ ss.length) (s8 : ss.length ≤ ms) (ms8 : ms ≤ 8) (m1 : 1 ≤ mt) (m24 : mt ≤ 24) (h0 : s0 ∈ ss) (l24 : L.length ≤ 8)
    (q : ∀ (v : V) (r : Int × List Step) (o' : HO) (H' : Hp), Ch [p] H0 H' → H' p = some o' → PoolO o' → RowP g.K (fun l => H0 l = none) H' v r → GoodRow zs ms r → Q v H') :
    t_lh_4 g (endsQ Q) [some (.ref p), some (.ref n), a, some (.int mt), b, c, d, some (.ref st), some (.int s0), some (.ref l), e, f, none, none, none] H := by
  refine ⟨_, rfl, _, rfl, _, rfl, _, rfl, _, rfl, p, o, mt, rfl, hp, po, by omega, ?_, ?_⟩
  · have : (24 : Int) ≤ 26 ^ 12 := by decide
    omega
  intro d1 o1 d0 d2 po1
  obtain ⟨d1, rfl⟩ := Int.eq_ofNat_of_zero_le d0
  refine ⟨_, _, rfl, rfl, ?_⟩
  have e1 : (1 : Int) + (d1 : Int) = ((1 + d1 : Nat) : Int) := by omega
  have lnp : l ≠ p := npl.symm
  refine ⟨p, n, st, 1 + d1, o1, zs, ss, by show [V.ref p, V.ref n, V.ref st, V.int ((1 : Int) + (d1 : Int))] = _; rw [e1], upd_same, po1, sqL_upd npn.symm hn, SqL.of (by rw [upd_ne nps.symm]; exact hst), npn, nps, zne, ?_, hz, hss, z1, by omega, by omega, fun t ys M o2 H2 ch2 hp2 po2 nt ht hM drM lM1 lM2 => ?_⟩
  · intro e; rw [e, List.length_nil] at s1; omega
  have ch02 : Ch [p] H0 H2 := (ch.at (by simp)).trans ch2
  have hl2 : H2 l = some (.lst xs) := ch2 _ _ (by rw [upd_ne lnp]; exact hl) (by simpa using lnp)
  have hL2 : StepsAt g.K H2 xs L := paired_mono (fun _ _ ⟨b, e, z⟩ => ⟨b, e, by
    have z1 := sqT_upd (o := o1) hp (pool_nt po).1 (pool_nt po).2 z
    rcases z1 with (h | ⟨u, h⟩) | h
    · have bp : b ≠ p := ne_of (o := .tup _) h (upd_same) (fun z => (pool_nt po1).1 _ z.symm)
      exact .inl (.inl (ch2 _ _ h (by simpa using bp)))
    · have bp : b ≠ p := ne_of (o := .frz u _) h (upd_same) (fun z => (pool_nt po1).2 _ _ z.symm)
      exact .inl (.inr ⟨u, ch2 _ _ h (by simpa using bp)⟩)
    · exact .inr h⟩) hL
  have tl : t ≠ l := fun z => by
    rw [z, upd_ne lnp, hl] at nt; cases nt
  have lenM := hM.length
  refine ⟨t, rfl, ⟨_, SqL.of ht⟩, for_list (K := g.K) (a := t) (xs := ys) (fun k σ H' => ∃ (zs' : List V) (L' : List Step) (u w x : Option V), σ = [some (.ref p), some (.ref n), a, some (.int mt), b, c, d, some (.ref st), some (.int s0), some (.ref l), e, f, u, w, x] ∧ Ch [p] H0 H' ∧ H' p = some o2 ∧ H' t = some (.lst ys) ∧ StepsAt g.K H' ys M ∧ H' l = some (.lst zs') ∧ StepsAt g.K H' zs' L' ∧ Drawn zs ss L' ∧ L'.length ≤ 24 ∧ (1 ≤ k → 1 ≤ L'.length))
    ⟨xs, L, _, _, _, rfl, ch02, hp2, ht, hM, hl2, hL2, dr, by omega, by omega⟩ (fun k σ H' _ ⟨_, _, _, _, _, _, _, _, h, _⟩ => SqL.of h) ?_ ?_⟩
  · rintro k v σ H' hv ⟨zs', L', u, w, x, rfl, ch', hp', ht', hM', hl', hL', dr', len', one'⟩
    obtain ⟨s, hs1, bb, rfl, st1⟩ := paired_get hM' hv
    have sM : s ∈ M := List.mem_of_getElem? hs1
    refine s_asg (len_leaveX (l := l) (xs := zs') (L := L') (s := s.1) rfl (fun H'' Q a sm q => ⟨_, rfl, bb, _, _, .int s.1, rfl, rfl, Same.tup sm st1, rfl, q⟩) (show 14 < 15 by decide) (SqL.of hl') hL' (by omega) fun H3 s3 => ?_)
    have hM3 := StepsAt.mono s3 hM'
    have hL3 := StepsAt.mono s3 hL'
    have hl3 := s3 _ _ hl'
    have okM := drM.ok hz hss
    refine ⟨_, rfl, _, rfl, stepD s, _, dp_step ⟨bb, rfl, Same.tup s3 st1⟩, .lst (SqL.of hl3) (dp_steps hL3), step_shaped (okM s sM), steps_shaped (dr'.ok hz hss), _, rfl, ?_⟩
    rw [any_step]
    have skip : ∀ w0 : Option V, 1 ≤ L'.length → ∃ (zs2 : List V) (L2 : List Step) (u' w' x' : Option V), [some (V.ref p), some (V.ref n), a, some (V.int mt), b, c, d, some (V.ref st), some (V.int s0), some (V.ref l), e, f, some (V.ref bb), w0, x] = [some (.ref p), some (.ref n), a, some (.int mt), b, c, d, some (.ref st), some (.int s0), some (.ref l), e, f, u', w', x'] ∧ Ch [p] H0 H3 ∧ H3 p = some o2 ∧ H3 t = some (.lst ys) ∧ StepsAt g.K H3 ys M ∧ H3 l = some (.lst zs2) ∧ StepsAt g.K H3 zs2 L2 ∧ Drawn zs ss L2 ∧ L2.length ≤ 24 ∧ (1 ≤ k + 1 → 1 ≤ L2.length) := fun w0 h1 =>
      ⟨zs', L', _, _, _, rfl, ch'.trans (Ch.same s3), s3 _ _ hp', s3 _ _ ht', hM3, hl3, hL3, dr', len', fun _ => h1⟩
    have le : leavingN L' s.1 ≤ L'.length := List.length_filter_le _ _
    by_cases c1 : s ∈ L'
    · rw [decide_eq_true c1]
      exact iteF (skip _ (List.length_pos_of_mem c1))
    · rw [decide_eq_false c1]
      refine iteT ⟨_, rfl, _, _, rfl, rfl, _, rfl, ?_⟩
      by_cases c2 : leavingN L' s.1 < 4
      · rw [decide_eq_true (show ((leavingN L' s.1 : Nat) : Int) < 4 by omega)]
        refine iteT ⟨_, rfl, l, zs', rfl, .inl (SqL.of hl3), _, rfl, _, _, rfl, rfl, _, rfl, ?_⟩
        have lz := hL'.length
        by_cases c3 : zs'.length < mt
        · rw [decide_eq_true (show ((zs'.length : Nat) : Int) < (mt : Int) by omega)]
          refine iteT ⟨_, rfl, .inl ⟨rfl, _, SqL.of hl3⟩, _, rfl, l, _, _, rfl, rfl, hl3, small1000 (by omega), ?_⟩
          refine ⟨zs' ++ [.ref bb], L' ++ [s], _, _, _, rfl, (ch'.trans (Ch.same s3)).own nl, (by rw [upd_ne npl]; exact s3 _ _ hp'), (by rw [upd_ne tl]; exact s3 _ _ ht'), steps_upd hl3 lst_nt hM3, upd_same, ?_, dr'.snoc c1 c2 (drM.wd s sM) (drM.fr s sM) (drM.to s sM), by simp; omega, fun _ => by simp⟩
          exact paired_app (steps_upd hl3 lst_nt hL3) (.cons ⟨bb, rfl, sqT_upd hl3 lst_nt.1 lst_nt.2 (Same.tup s3 st1)⟩ .nil)
        · rw [decide_eq_false (show ¬ ((zs'.length : Nat) : Int) < (mt : Int) by omega)]
          exact iteF (skip _ (by omega))
      · rw [decide_eq_false (show ¬ ((leavingN L' s.1 : Nat) : Int) < 4 by omega)]
        exact iteF (skip _ (by omega))
  · rintro σ H' ⟨zs', L', u, w, x, rfl, ch', hp', ht', hM', hl', hL', dr', len', one'⟩
    refine ⟨_, rfl, _, rfl, by show 2 ≤ sizeLine; decide, fun r hr => ?_⟩
    have s4 : Same H' (upd H' r (.tup [.int s0, .ref l])) := Same.new hr
    exact q (.ref r) (s0, L') o2 _ (ch'.trans (Ch.same s4)) (s4 _ _ hp') po2 ⟨r, l, zs', rfl, nl, upd_same, s4 _ _ hl', StepsAt.mono s4 hL'⟩ ⟨⟨ss, dr', hss, s8, h0⟩, one' (by have := lM2 (by omega); omega), len'⟩
/-- the first loop: each state has a step to the next -/
theorem pure_lh_3 {g : Ga} {H0 H : Hp} {a b c : Option V} {p n st l : Addr} {o : HO} {zs : List Str} {s0 sh fi ga : Int} {ms mt N : Nat} {Q : VK}
    (np0 : H0 p ≠ none) (ch : Ch [p] H0 H) (hp : H p = some o) (po : PoolO o) (hn : SqL g.K H n (zs.map V.str)) (npn : p ≠ n) (hst : H st = some (.lst (((List.range N).map fun j : Nat => fi + ga * (0 + (j : Int))).map V.int))) (nps : p ≠ st) (npl : p ≠ l) (nl : H0 l = none) (nsl : st ≠ l) (nnl : n ≠ l) (hl : H l = some (.lst []))
    (zne : zs ≠ []) (hz : ∀ z ∈ zs, IsName z) (z1 : zs.length ≤ 100) (g0 : 1 ≤ ga) (hss : ∀ s ∈ (List.range N).map fun j : Nat => fi + ga * (0 + (j : Int)), 0 ≤ s ∧ s ≤ 99) (s1 : 1 ≤ N) (s8 : N ≤ ms) (ms8 : ms ≤ 8) (m1 : 1 ≤ mt) (m24 : mt ≤ 24) (h0 : s0 ∈ (List.range N).map fun j : Nat => fi + ga * (0 + (j : Int)))
    (q : ∀ (v : V) (r : Int × List Step) (o' : HO) (H' : Hp), Ch [p] H0 H' → H' p = some o' → PoolO o' → RowP g.K (fun l => H0 l = none) H' v r → GoodRow zs ms r → Q v H') :
    t_lh_3 g (endsQ Q) [some (.ref p), some (.ref n), a, some (.int mt), some (.int sh), b, c, some (.ref st), some (.int s0), some (.ref l), none, none, none, none, none] H := by
  generalize hSS : ((List.range N).map fun j : Nat => fi + ga * (0 + (j : Int))) = ss at *
  have lss : ss.length = N := by rw [← hSS]; simp
  have get : ∀ i, i < N → ss[i]? = some (fi + ga * (0 + (i : Int))) := fun i hi => by rw [← hSS]; exact ss_get hi
  refine s_if ⟨_, rfl, _, _, rfl, rfl, _, rfl, ite2 (fun _ => ?_) fun _ => ?_⟩
  · have lm : (ss.map V.int).length = N := by rw [List.length_map, lss]
    refine ⟨_, rfl, st, _, rfl, .inl (SqL.of hst), _, rfl, by omega, by omega, for_range (n := (ss.map V.int).length) (fun i σ H' => ∃ (xs : List V) (L : List Step) (o' : HO) (u w : Option V), σ = [some (.ref p), some (.ref n), a, some (.int mt), some (.int sh), b, c, some (.ref st), some (.int s0), some (.ref l), u, w, none, none, none] ∧ Ch [p] H0 H' ∧ H' p = some o' ∧ PoolO o' ∧ SqL g.K H' n (zs.map V.str) ∧ H' st = some (.lst (ss.map V.int)) ∧ H' l = some (.lst xs) ∧ StepsAt g.K H' xs L ∧ Drawn zs ss L ∧ L.length = i ∧ ∀ s ∈ L, ∃ j : Nat, j < i ∧ s.1 = fi + ga * (0 + (j : Int)))
      ⟨[], [], o, _, _, rfl, ch, hp, po, hn, hst, hl, .nil, Drawn.nil zs ss, rfl, fun s h => by cases h⟩ ?_ ?_⟩
    · rintro i σ H1 hi ⟨xs, L, o1, u, w, rfl, ch1, hp1, po1, hn1, hst1, hl1, hL1, dr, li, dist⟩
      rw [lm] at hi
      refine s_asg (pick (xs := zs.map V.str) rfl rfl hn1 hp1 po1 npn.symm (by rw [List.length_map]; exact List.length_pos_iff.mpr zne) (by rw [List.length_map]; omega) fun k2 v2 o2 e2 po2 => ?_)
      obtain ⟨wd, hwd, rfl⟩ := map_get e2
      have hst2 : (upd H1 p o2) st = some (.lst (ss.map V.int)) := by rw [upd_ne nps.symm]; exact hst1
      have hl2 : (upd H1 p o2) l = some (.lst xs) := by rw [upd_ne npl.symm]; exact hl1
      have a1 : (ss.map V.int)[i]? = some (.int (fi + ga * (0 + (i : Int)))) := by rw [List.getElem?_map, get i hi]; rfl
      obtain ⟨to, hto⟩ : ∃ to, ss[(i + 1) % N]? = some to := ⟨_, get _ (Nat.mod_lt _ (by omega))⟩
      have a2 : (ss.map V.int)[(i + 1) % N]? = some (.int to) := by rw [List.getElem?_map, hto]; rfl
      have e3 : ((0 + (i : Int)) + 1) % ((ss.map V.int).length : Int) = (((i + 1) % N : Nat) : Int) := by rw [lm, Int.zero_add, Int.natCast_emod, Int.natCast_add]; rfl
      refine ⟨_, rfl, .inl ⟨rfl, _, SqL.of hl2⟩, ?_⟩
      refine ⟨_, rfl, _, rfl, st, _, _, _, rfl, rfl, SqL.of hst2, (by rw [Int.zero_add]; exact atI_nat a1), ?_⟩
      refine ⟨_, rfl, _, rfl, _, rfl, _, _, rfl, rfl, .inl ⟨_, rfl, _, rfl, st, _, rfl, .inl (SqL.of hst2), _, _, rfl, rfl, (show (0 : Int) < ((ss.map V.int).length : Int) by omega), st, _, _, _, rfl, rfl, SqL.of hst2, (by rw [e3]; exact atI_nat a2), by show 3 ≤ sizeLine; decide, fun t ht => ?_⟩⟩
      have s5 : Same (upd H1 p o2) (upd (upd H1 p o2) t (.tup [.int (fi + ga * (0 + (i : Int))), .str wd, .int to])) := Same.new ht
      have hl5 := s5 _ _ hl2
      have hL5 : StepsAt g.K _ xs L := StepsAt.mono s5 (steps_upd hp1 (pool_nt po1) hL1)
      refine ⟨l, _, _, rfl, rfl, hl5, small1000 (by have := hL1.length; omega), ?_⟩
      have nin : (fi + ga * (0 + (i : Int)), wd, to) ∉ L ∧ leavingN L (fi + ga * (0 + (i : Int))) = 0 := by
        have ne : ∀ s ∈ L, s.1 ≠ fi + ga * (0 + (i : Int)) := fun s hs e => by
          obtain ⟨j, hj, ej⟩ := dist s hs
          rw [ej] at e
          have e4 : ga * (0 + (j : Int)) = ga * (0 + (i : Int)) := by omega
          have := Int.eq_of_mul_eq_mul_left (by omega) e4
          omega
        refine ⟨fun h => ne _ h rfl, ?_⟩
        unfold leavingN
        rw [List.length_eq_zero_iff, List.filter_eq_nil_iff]
        intro s hs
        simpa using ne s hs
      refine ⟨xs ++ [.ref t], L ++ [(fi + ga * (0 + (i : Int)), wd, to)], o2, _, _, rfl, (((ch1.at (by simp)).trans (Ch.same s5))).own nl, (by rw [upd_ne npl]; exact s5 _ _ upd_same), po2, ?_, (by rw [upd_ne nsl]; exact s5 _ _ hst2), upd_same, ?_, dr.snoc nin.1 (by rw [nin.2]; decide) (List.mem_of_getElem? hwd) (List.mem_of_getElem? (get i hi)) (List.mem_of_getElem? hto), by simp [li], fun s hs => ?_⟩
      · exact sqL_upd nnl (s5.seq (sqL_upd npn.symm hn1))
      · exact paired_app (steps_upd hl5 lst_nt hL5) (.cons ⟨t, rfl, sqT_upd hl5 lst_nt.1 lst_nt.2 (SqT.of upd_same)⟩ .nil)
      · rcases List.mem_append.mp hs with z | z
        · obtain ⟨j, hj, e⟩ := dist s z
          exact ⟨j, by omega, e⟩
        · rw [List.mem_singleton.mp z]; exact ⟨i, by omega, rfl⟩
    · rintro σ H1 ⟨xs, L, o1, u, w, rfl, ch1, hp1, po1, hn1, hst1, hl1, hL1, dr, li, dist⟩
      exact pure_lh_4 np0 ch1 hp1 po1 hn1 npn hst1 nps npl nl hl1 hL1 dr zne hz z1 hss (by omega) (by omega) ms8 m1 m24 h0 (by omega) q
  · exact pure_lh_4 np0 ch hp po hn npn hst nps npl nl hl .nil (Drawn.nil zs ss) zne hz z1 hss (by omega) (by omega) ms8 m1 m24 h0 (Nat.zero_le _) q
theorem pure_law_hand {g : Ga} {vs : List V} {H : Hp} {Q : VK} {E : XK} {N : List Str} (hN : N.length = 15) (h : sp_law_hand g vs H Q E) : t_law_hand g (endsQ Q) (L2.start N vs) H := by
  obtain ⟨p, n, ms, mt, o, zs, rfl, hp, po, hn, npn, zne, hz, z1, a1, a2, b1, b2, q⟩ := h
  have e0 : L2.start N [.ref p, .ref n, .int ms, .int mt] = [some (.ref p), some (.ref n), some (.int ms), some (.int mt), none, none, none, none, none, none, none, none, none, none, none] := by
    unfold L2.start; rw [hN]; rfl
  rw [e0]
  refine s_asg (draw_c rfl hp po (by decide) (by decide) fun d1 o1 c1 po1 => ?_)
  refine s_asg (draw_c rfl upd_same po1 (by decide) (by decide) fun d2 o2 c2 po2 => ?_)
  rw [upd_upd]
  refine s_asg (e_op (e_cst (draw_c rfl upd_same po2 (by decide) (by decide) fun d3 o3 c3 po3 => ⟨_, _, rfl, rfl, ?_⟩)))
  rw [upd_upd]
  have big : (8 : Int) ≤ 26 ^ 12 := by decide
  show t_lh_1 g (endsQ Q) [some (.ref p), some (.ref n), some (.int ms), some (.int mt), some (.int d1), some (.int d2), some (.int ((1 : Int) + (d3 : Int))), none, none, none, none, none, none, none, none] (upd H p o3)
  refine s_asg (lc_rngI (fun j : Nat => (d2 : Int) + ((1 : Int) + (d3 : Int)) * (0 + (j : Int))) (fun n H3 => 1 ≤ n ∧ n ≤ ms ∧ ∃ o4, PoolO o4 ∧ H3 = upd H p o4) (fun R r => ⟨_, rfl, _, rfl, p, o3, ms, rfl, upd_same, po3, by omega, by omega, fun d4 o4 f0 f1 po4 => ?_⟩) (by show 10 < 15; decide) (fun n _ z => by omega) (fun i H' Q hi q => ⟨_, rfl, _, rfl, _, rfl, _, _, rfl, rfl, .inl ⟨by omega, by omega⟩, _, _, rfl, rfl, q⟩) ?_)
  · obtain ⟨d4, rfl⟩ := Int.eq_ofNat_of_zero_le f0
    have e3 : (1 : Int) + (d4 : Int) = ((1 + d4 : Nat) : Int) := by omega
    refine ⟨_, _, rfl, rfl, ?_⟩
    show R [.int ((1 : Int) + (d4 : Int))] _
    rw [e3]
    exact r _ _ ⟨by omega, by omega, o4, po4, by rw [upd_upd]⟩
  rintro m H3' st H4 ⟨m1, m8, o4, po4, rfl⟩ s4 nst hst
  have hp4 : H4 p = some o4 := s4 _ _ upd_same
  have nps : p ≠ st := ne_of_none upd_same nst
  have nst0 : H st = none := by rw [upd_ne nps.symm] at nst; exact nst
  have hn4 : H4 n = some (.lst (zs.map V.str)) := s4 _ _ (by rw [upd_ne npn.symm]; exact hn)
  have ch4 : Ch [p] H H4 := ((Ch.refl H).at (by simp)).trans (Ch.same s4)
  have hss : ∀ s ∈ (List.range m).map fun j : Nat => (d2 : Int) + ((1 : Int) + (d3 : Int)) * (0 + (j : Int)), 0 ≤ s ∧ s ≤ 99 := fun s hs => by
    obtain ⟨j, hj, rfl⟩ := List.mem_map.mp hs
    have hj := List.mem_range.mp hj
    have k1 : (1 : Int) + (d3 : Int) ≤ 3 := by omega
    have k2 : (0 : Int) + (j : Int) ≤ 7 := by omega
    have k3 : ((1 : Int) + (d3 : Int)) * (0 + (j : Int)) ≤ 3 * 7 := Int.mul_le_mul k1 k2 (by omega) (by omega)
    have k4 : 0 ≤ ((1 : Int) + (d3 : Int)) * (0 + (j : Int)) := Int.mul_nonneg (by omega) (by omega)
    omega
  show t_lh_2 g (endsQ Q) [some (.ref p), some (.ref n), some (.int ms), some (.int mt), some (.int d1), some (.int d2), some (.int ((1 : Int) + (d3 : Int))), some (.ref st), none, none, none, none, none, none, none] H4
  refine s_asg (pick (xs := ((List.range m).map fun j : Nat => (d2 : Int) + ((1 : Int) + (d3 : Int)) * (0 + (j : Int))).map V.int) rfl rfl (SqL.of hst) hp4 po4 nps.symm (by simp; omega) (by simp; omega) fun k5 v5 o5 e5 po5 => ?_)
  obtain ⟨s0, hs0, rfl⟩ := map_get e5
  refine ⟨by show 0 ≤ sizeLine; decide, fun l hl => ?_⟩
  have npl : p ≠ l := ne_of_none upd_same hl
  have ch5 : Ch [p] H (upd H4 p o5) := ch4.at (by simp)
  have hst5 : (upd H4 p o5) st = some (.lst (((List.range m).map fun j : Nat => (d2 : Int) + ((1 : Int) + (d3 : Int)) * (0 + (j : Int))).map V.int)) := by rw [upd_ne nps.symm]; exact hst
  have nl : H l = none := ch5.free hl (by simpa using npl.symm)
  have s6 : Same (upd H4 p o5) (upd (upd H4 p o5) l (.lst [])) := Same.new hl
  have hn5 : (upd H4 p o5) n = some (.lst (zs.map V.str)) := by rw [upd_ne npn.symm]; exact hn4
  exact pure_lh_3 (H0 := H) (by rw [hp]; simp) (ch5.own nl) (s6 _ _ upd_same) po5 (SqL.of (s6 _ _ hn5)) npn (s6 _ _ hst5) nps npl nl (ne_of_none hst5 hl) (ne_of_none hn5 hl) upd_same zne hz z1 (by omega) hss m1 m8 a2 b1 b2 (List.mem_of_getElem? hs0) q
end Sd
namespace Sd
open PySem PySem.Spec PyProof.Rows L2
/-! ### checked_hands -/
def IsH (g : Ga) (H : Hp) (v : V) (b : Bool) : Prop := ∃ t, TyX g.K H v t ∧ PySem.W.kitOne g.K t (.ref g.cHand) = some b
theorem IsH.mono {g : Ga} {H H' : Hp} {v : V} {b : Bool} (s : Same H H') (h : IsH g H v b) : IsH g H' v b := let ⟨t, a, r⟩ := h; ⟨t, tyx_mono s a, r⟩
def sp_checked_hands (g : Ga) : Sp := fun vs H Q E => ∃ x, vs = [x] ∧ ((RowV g.K H x false ∧ RaisesX E g.cBadHands "at" (.int (-1)) H) ∨
  ∃ xs : List V, seqOf g.K H x xs ∧ ((¬ (1 ≤ xs.length ∧ xs.length ≤ 4) ∧ RaisesX E g.cBadHands "at" (.int (-1)) H) ∨
    ((1 ≤ xs.length ∧ xs.length ≤ 4) ∧ ∃ bs : List Bool, Paired (IsH g H) xs bs ∧ (∀ i : Nat, bs[i]? = some false → (∀ b ∈ bs.take i, b = true) → RaisesX E g.cBadHands "at" (.int i) H) ∧
      ((∀ b ∈ bs, b = true) → ∀ p H', Same H H' → SqT g.K H' p xs → Q (.ref p) H'))))
def t_checked_hands (g : Ga) (E : XK) : TS := (tSeq (tIfS (tOr (tNot (tB (tCall (sp_is_row g) [] E0 (tCons (tVar 0) tNil)))) (tNot (tTest (tChain rLe rLe (tC (.int 1)) (tCB (rLen g.K) (tCons (tVar 0) tNil)) (tC (.int 4)))))) (tRaiseX g.cBadHands "at" E (tCons (tUn rNeg (tC (.int 1))) tNil)) tNext) (tSeq (tFor (iEnumS g.K (tCons (tVar 0) tNil)) (gTup g.K 2 (gCons (gName 1) (gCons (gName 2) gNil))) (tIfS (tNot (tB (tCB (rIsi g.K) (tCons (tVar 2) (tCons (tC (.ref (g.cHand))) tNil))))) (tRaiseX g.cBadHands "at" E (tCons (tVar 1) tNil)) tNext)) (tRet (tCB (rTupS g.K) (tCons (tVar 0) tNil)))))
theorem pure_checked_hands {g : Ga} {vs : List V} {H : Hp} {Q : VK} {E : XK} {N : List Str} (hN : N.length = 3) (h : sp_checked_hands g vs H Q E) : t_checked_hands g E (endsQ Q) (L2.start N vs) H := by
  obtain ⟨x, rfl, alt0⟩ := h
  have e0 : L2.start N [x] = [some x, none, none] := by unfold L2.start; rw [hN]; rfl
  rw [e0]
  rcases alt0 with ⟨no, ra⟩ | ⟨xs, hx, alt⟩
  · exact ⟨_, rfl, x, false, rfl, no, fun H1 s1 => ⟨false, rfl, iteT (iteT (raiseX s1 ra fun Q q => ⟨_, rfl, q⟩))⟩⟩
  · obtain ⟨a, rfl, hs⟩ := hx
    have row : RowV g.K H (.ref a) true := hs.elim row_list row_tup
    refine ⟨_, rfl, _, true, rfl, row, fun H1 s1 => ⟨true, rfl, iteF ?_⟩⟩
    have hs1 : SqL g.K H1 a xs ∨ SqT g.K H1 a xs := hs.imp (fun z => s1.seq z) fun z => Same.tup s1 z
    have hl1 : LenV g.K (.ref a) H1 xs.length := hs1.imp (fun z => ⟨_, z, rfl⟩) fun z => ⟨_, z, rfl⟩
    refine ⟨_, rfl, _, _, rfl, hl1, _, _, rfl, rfl, _, rfl, ?_⟩
    have bad : ∀ D σ, ¬ (1 ≤ xs.length ∧ xs.length ≤ 4) → tRaiseX g.cBadHands "at" E (tCons (tUn rNeg (tC (.int 1))) tNil) D σ H1 := fun D σ n => by
      rcases alt with ⟨_, ra⟩ | ⟨y, _⟩
      · exact raiseX s1 ra fun Q q => ⟨1, rfl, q⟩
      · exact absurd y n
    refine ite2 (fun c => ?_) (fun c => ?_)
    · have c1 : (1 : Int) ≤ (xs.length : Int) := of_decide_eq_true c
      refine ⟨_, _, rfl, rfl, _, rfl, ?_⟩
      show if (!decide ((xs.length : Int) ≤ 4)) = true then _ else _
      by_cases c2 : (xs.length : Int) ≤ 4
      · rw [decide_eq_true c2]
        refine iteF ?_
        rcases alt with ⟨n, _⟩ | ⟨y, bs, hbs, hbad, hok⟩
        · exact absurd ⟨by omega, by omega⟩ n
        · have turn : ∀ (i : Nat) (v : V) (T : Addr) (σ : L2.St) (H' : Hp) (D : Ends), xs[i]? = some v → (∃ (p q : Option V), σ = [some (.ref a), p, q] ∧ Same H H' ∧ ∀ b ∈ bs.take i, b = true) → H' T = none → (∀ σ2 H2, (∃ (p q : Option V), σ2 = [some (.ref a), p, q] ∧ Same H H2 ∧ ∀ b ∈ bs.take (i + 1), b = true) → D.nx σ2 H2) →
              gTup g.K 2 (gCons (gName 1) (gCons (gName 2) gNil)) (.ref T) σ (upd H' T (.tup [.int (i : Nat), v])) fun σ2 H2 => tIfS (tNot (tB (tCB (rIsi g.K) (tCons (tVar 2) (tCons (tC (.ref (g.cHand))) tNil))))) (tRaiseX g.cBadHands "at" E (tCons (tVar 1) tNil)) tNext D σ2 H2 := by
            rintro i v T σ H' D hv ⟨p, q, rfl, sm, al⟩ hT nx
            obtain ⟨b, hb, t, ty, kt⟩ := paired_get hbs hv
            have smT : Same H (upd H' T (.tup [.int (i : Nat), v])) := sm.trans (Same.new hT)
            refine ⟨T, _, rfl, SqT.of upd_same, rfl, _, _, rfl, _, _, rfl, rfl, ?_⟩
            refine ⟨_, rfl, v, _, t, _, b, rfl, .own _, tyx_mono smT ty, kt, b, rfl, ?_⟩
            cases b with
            | false => exact iteT (raiseX smT (hbad i hb al) fun Q q => ⟨_, rfl, q⟩)
            | true =>
              refine iteF (nx _ _ ⟨_, _, rfl, smT, fun b hb' => ?_⟩)
              rw [List.take_add_one, hb] at hb'
              rcases List.mem_append.mp hb' with z | z
              · exact al b z
              · simpa using z
          have fin : ∀ (σ : L2.St) (H' : Hp), (∃ (p q : Option V), σ = [some (.ref a), p, q] ∧ Same H H' ∧ ∀ b ∈ bs.take xs.length, b = true) → tRet (tCB (rTupS g.K) (tCons (tVar 0) tNil)) (endsQ Q) σ H' := by
            rintro σ H' ⟨p, q, rfl, sm, al⟩
            rw [hbs.length, List.take_length] at al
            rcases hs with z | z
            · exact ⟨_, rfl, a, xs, rfl, .inl ⟨sm.seq z, fun t ht => hok al t _ (sm.trans (Same.new ht)) (SqT.of upd_same)⟩⟩
            · exact ⟨_, rfl, a, xs, rfl, .inr ⟨Same.tup sm z, hok al a _ sm (Same.tup sm z)⟩⟩
          rcases hs with z | z
          · exact .inl ⟨_, rfl, a, xs, rfl, s1.seq z, for_enumL (K := g.K) (a := a) (xs := xs) (fun i σ H' => ∃ (p q : Option V), σ = [some (.ref a), p, q] ∧ Same H H' ∧ ∀ b ∈ bs.take i, b = true)
              ⟨none, none, rfl, s1, fun b h => by simp at h⟩ (fun i σ H' _ ⟨_, _, _, sm, _⟩ => sm.seq z) (fun i v T σ H' hv w hT => turn i v T σ H' _ hv w hT fun _ _ u => u) fin⟩
          · exact .inr ⟨_, rfl, a, xs, rfl, Same.tup s1 z, for_enumT (K := g.K) (a := a) (xs := xs) (fun i σ H' => ∃ (p q : Option V), σ = [some (.ref a), p, q] ∧ Same H H' ∧ ∀ b ∈ bs.take i, b = true)
              ⟨none, none, rfl, s1, fun b h => by simp at h⟩ (fun i σ H' _ ⟨_, _, _, sm, _⟩ => Same.tup sm z) (fun i v T σ H' hv w hT => turn i v T σ H' _ hv w hT fun _ _ u => u) fin⟩
      · rw [decide_eq_false c2]
        exact iteT (bad _ _ fun w => c2 (by omega))
    · have c1 : ¬ (1 : Int) ≤ (xs.length : Int) := fun w => c (decide_eq_true w)
      exact ⟨_, rfl, iteT (bad _ _ fun w => c1 (by omega))⟩

/-! ### checked_diligent -/
def ItemI (K : PySem.W.Frag) (H : Hp) (v : V) : Option Int → Prop
  | some i => v = .int i
  | none => NoInt K H v
def badD (m : Nat) : List (Option Int) → List Int → Nat → Option Nat
  | [], _, _ => none
  | none :: _, _, i => some i
  | some z :: r, kept, i => if 0 ≤ z ∧ z < m ∧ z ∉ kept then badD m r (kept ++ [z]) (i + 1) else some i
theorem badD_none {m : Nat} : ∀ {its : List (Option Int)} {kept : List Int} {i : Nat}, badD m its kept i = none → ∃ ks : List Int, its = ks.map some
  | [], _, _, _ => ⟨[], rfl⟩
  | none :: r, _, _, h => by simp [badD] at h
  | some z :: r, kept, i, h => by
    unfold badD at h
    split at h
    · obtain ⟨L, e⟩ := badD_none h
      exact ⟨z :: L, by rw [e]; rfl⟩
    · cases h
theorem noInt_mono {K : PySem.W.Frag} {H H' : Hp} {v : V} (s : Same H H') (h : NoInt K H v) : NoInt K H' v := let ⟨t, b, c, ty, r⟩ := h; ⟨t, b, c, tyx_mono s ty, r⟩
theorem ItemI.mono {K : PySem.W.Frag} {H H' : Hp} {v : V} {o : Option Int} (s : Same H H') (h : ItemI K H v o) : ItemI K H' v o := by
  cases o with
  | none => exact noInt_mono s h
  | some i => exact h
def sp_checked_diligent (g : Ga) : Sp := fun vs H Q E => ∃ (x : V) (m : Nat), vs = [x, .int m] ∧ m ≤ 1000 ∧
  ((x = .non ∧ ∀ p H', Same H H' → H p = none → H' p = some (.tup ((List.range m).map fun k : Nat => V.int (k : Int))) → Q (.ref p) H') ∨
   (x ≠ .non ∧ RowV g.K H x false ∧ RaisesX E g.cBadDiligent "value" x H) ∨
   ∃ (xs : List V) (its : List (Option Int)), seqOf g.K H x xs ∧ xs.length ≤ 1000 ∧ Paired (ItemI g.K H) xs its ∧ (∀ i v, badD m its [] 0 = some i → xs[i]? = some v → RaisesX E g.cBadDiligent "value" v H) ∧
     ∀ ks ks' : List Int, badD m its [] 0 = none → its = ks.map some → ks'.Perm ks → ks'.Pairwise (· ≤ ·) → ∀ p H', Same H H' → H p = none → H' p = some (.tup (ks'.map V.int)) → Q (.ref p) H')
def t_checked_diligent (g : Ga) (E : XK) : TS := (tSeq (tIfS (tTest (tOp rIsN (tVar 0) (tC .non))) (tRet (tTupRg (tRg1 (tVar 1)))) tNext) (tSeq (tIfS (tNot (tB (tCall (sp_is_row g) [] E0 (tCons (tVar 0) tNil)))) (tRaiseX g.cBadDiligent "value" E (tCons (tVar 0) tNil)) tNext) (tSeq (tAsg (tLst tNil) (gName 2)) (tSeq (tFor (iSeq g.K (tVar 0)) (gName 3) (tSeq (tIfS (tOr (tNot (tB (tCall (sp_is_integer g) [] E0 (tCons (tVar 3) tNil)))) (tOr (tNot (tTest (tChain rLe rLt (tC (.int 0)) (tVar 3) (tVar 1)))) (tTest (tOp (rIn g.K false) (tVar 3) (tVar 2))))) (tRaiseX g.cBadDiligent "value" E (tCons (tVar 3) tNil)) tNext) (tDrop (tBM g.K "list" rApp (tVar 2) (tCons (tVar 3) tNil))))) (tRet (tCB (rTupS g.K) (tCons (tCB (rSortedI g.K) (tCons (tVar 2) tNil)) tNil)))))))
theorem pure_checked_diligent {g : Ga} {vs : List V} {H : Hp} {Q : VK} {E : XK} {N : List Str} (hN : N.length = 4) (h : sp_checked_diligent g vs H Q E) : t_checked_diligent g E (endsQ Q) (L2.start N vs) H := by
  obtain ⟨x, m, rfl, hm, alt0⟩ := h
  have e0 : L2.start N [x, .int m] = [some x, some (.int m), none, none] := by unfold L2.start; rw [hN]; rfl
  rw [e0]
  rcases alt0 with ⟨rfl, q⟩ | ⟨nx, no, ra⟩ | ⟨xs, its, hx, few, hits, hbad, hok⟩
  · refine ⟨_, rfl, rfl, _, rfl, iteT ⟨_, rfl, m, rfl, RgOk.of_le (by omega) (by omega) (by omega) (by omega), fun p hp => ?_⟩⟩
    have e : rgV 0 (m : Int) = (List.range m).map fun k : Nat => V.int (k : Int) := by
      unfold rgV
      rw [Int.sub_zero, Int.toNat_natCast]
      exact List.map_congr_left fun k _ => by rw [Int.zero_add]
    rw [e]
    exact q p _ (Same.new hp) hp upd_same
  · refine ⟨_, rfl, rfl, _, rfl, ?_⟩
    rw [decide_eq_false nx]
    exact iteF ⟨_, rfl, x, false, rfl, no, fun H1 s1 => ⟨false, rfl, iteT (raiseX s1 ra fun Q q => ⟨_, rfl, q⟩)⟩⟩
  · obtain ⟨a, rfl, hs⟩ := hx
    have row : RowV g.K H (.ref a) true := hs.elim row_list row_tup
    refine ⟨_, rfl, rfl, _, rfl, ?_⟩
    rw [decide_eq_false (fun z => by cases z)]
    refine iteF ⟨_, rfl, _, true, rfl, row, fun H1 s1 => ⟨true, rfl, iteF ⟨by show 0 ≤ sizeLine; decide, fun l hl => ?_⟩⟩⟩
    have hl0 : H l = none := s1.free hl
    have s2 : Same H (upd H1 l (.lst [])) := s1.trans (Same.new hl)
    have turn : ∀ (i : Nat) (v : V) (σ : L2.St) (H' : Hp) (D : Ends), xs[i]? = some v → (∃ (kept : List Int) (p : Option V), σ = [some (.ref a), some (.int m), some (.ref l), p] ∧ Same H H' ∧ H' l = some (.lst (kept.map V.int)) ∧ its.take i = kept.map some ∧ badD m its [] 0 = badD m (its.drop i) kept i) →
        (∀ σ2 H2, (∃ (kept : List Int) (p : Option V), σ2 = [some (.ref a), some (.int m), some (.ref l), p] ∧ Same H H2 ∧ H2 l = some (.lst (kept.map V.int)) ∧ its.take (i + 1) = kept.map some ∧ badD m its [] 0 = badD m (its.drop (i + 1)) kept (i + 1)) → D.nx σ2 H2) →
        gName 3 v σ H' fun σ2 H2 => (tSeq (tIfS (tOr (tNot (tB (tCall (sp_is_integer g) [] E0 (tCons (tVar 3) tNil)))) (tOr (tNot (tTest (tChain rLe rLt (tC (.int 0)) (tVar 3) (tVar 1)))) (tTest (tOp (rIn g.K false) (tVar 3) (tVar 2))))) (tRaiseX g.cBadDiligent "value" E (tCons (tVar 3) tNil)) tNext) (tDrop (tBM g.K "list" rApp (tVar 2) (tCons (tVar 3) tNil)))) D σ2 H2 := by
      rintro i v σ H' D hv ⟨kept, p, rfl, sm, hl', hk1, hk2⟩ nx
      obtain ⟨o, ho, iv⟩ := paired_get hits hv
      have drop : its.drop i = o :: its.drop (i + 1) := by
        have hi := (List.getElem?_eq_some_iff.mp ho)
        rw [List.drop_eq_getElem_cons hi.1, hi.2]
      rw [drop] at hk2
      have klen : kept.length ≤ 1000 := by
        have := congrArg List.length hk1
        rw [List.length_map, List.length_take] at this
        have := hits.length
        omega
      cases o with
      | none =>
        refine s_if ⟨_, rfl, v, false, rfl, .inr ⟨noInt_mono sm iv, rfl⟩, false, rfl, iteT (iteT (raiseX sm (hbad i v (by rw [hk2]; rfl) hv) fun Q q => ⟨_, rfl, q⟩))⟩
      | some z =>
        have ev : v = .int z := iv
        subst ev
        have rai : ¬ (0 ≤ z ∧ z < m ∧ z ∉ kept) → RaisesX E g.cBadDiligent "value" (.int z) H := fun n => hbad i (.int z) (by rw [hk2]; simp [badD, n]) hv
        refine s_if ⟨_, rfl, _, true, rfl, .inl ⟨z, rfl, rfl⟩, true, rfl, iteF ⟨_, rfl, _, _, rfl, rfl, _, rfl, ite2 (fun c => ?_) fun c => ?_⟩⟩
        · have c0 : (0 : Int) ≤ z := of_decide_eq_true c
          refine ⟨_, rfl, _, _, rfl, rfl, _, rfl, ?_⟩
          show if (!decide (z < (m : Int))) = true then _ else _
          by_cases c1 : z < (m : Int)
          · rw [decide_eq_true c1]
            refine iteF ⟨_, rfl, _, rfl, l, _, rfl, .inl (SqL.of hl'), rfl, int_flat _, _, rfl, ?_⟩
            rw [if_neg Bool.false_ne_true, inV_int]
            by_cases c2 : z ∈ kept
            · rw [decide_eq_true c2]
              exact iteT (raiseX sm (rai fun w => w.2.2 c2) fun Q q => ⟨_, rfl, q⟩)
            · rw [decide_eq_false c2]
              refine iteF ⟨_, rfl, .inl ⟨rfl, _, SqL.of hl'⟩, _, rfl, l, _, _, rfl, rfl, hl', small1000 (by rw [List.length_map]; exact klen), ?_⟩
              refine nx _ _ ⟨kept ++ [z], _, rfl, Same.own sm hl0, ?_, ?_, ?_⟩
              · rw [upd_same, List.map_append]; rfl
              · rw [List.take_add_one, ho, hk1, List.map_append]; rfl
              · rw [hk2, badD, if_pos ⟨c0, c1, c2⟩]
          · rw [decide_eq_false c1]
            exact iteT (iteT (raiseX sm (rai fun w => c1 w.2.1) fun Q q => ⟨_, rfl, q⟩))
        · have c0 : ¬ (0 : Int) ≤ z := fun w => c (decide_eq_true w)
          exact ⟨_, rfl, iteT (iteT (raiseX sm (rai fun w => c0 w.1) fun Q q => ⟨_, rfl, q⟩))⟩
    have fin : ∀ (σ : L2.St) (H' : Hp), (∃ (kept : List Int) (p : Option V), σ = [some (.ref a), some (.int m), some (.ref l), p] ∧ Same H H' ∧ H' l = some (.lst (kept.map V.int)) ∧ its.take xs.length = kept.map some ∧ badD m its [] 0 = badD m (its.drop xs.length) kept xs.length) → tRet (tCB (rTupS g.K) (tCons (tCB (rSortedI g.K) (tCons (tVar 2) tNil)) tNil)) (endsQ Q) σ H' := by
      rintro σ H' ⟨kept, p, rfl, sm, hl', hk1, hk2⟩
      rw [hits.length, List.drop_length] at hk2
      rw [hits.length, List.take_length] at hk1
      refine ⟨_, rfl, l, kept, rfl, SqL.of hl', fun ns' r pm pw hr => ⟨r, _, rfl, .inl ⟨SqL.of upd_same, fun t ht => ?_⟩⟩⟩
      have s3 : Same H (upd H' r (.lst (ns'.map V.int))) := sm.trans (Same.new hr)
      exact hok kept ns' hk2 hk1 pm pw t _ (s3.trans (Same.new ht)) (s3.free ht) upd_same
    rcases hs with z | z
    · exact .inl ⟨_, rfl, a, rfl, ⟨_, s2.seq z⟩, for_list (K := g.K) (a := a) (xs := xs) (fun i σ H' => ∃ (kept : List Int) (p : Option V), σ = [some (.ref a), some (.int m), some (.ref l), p] ∧ Same H H' ∧ H' l = some (.lst (kept.map V.int)) ∧ its.take i = kept.map some ∧ badD m its [] 0 = badD m (its.drop i) kept i)
        ⟨[], none, rfl, s2, upd_same, rfl, rfl⟩ (fun i σ H' _ ⟨_, _, _, sm, _⟩ => sm.seq z) (fun i v σ H' hv w => turn i v σ H' _ hv w fun _ _ u => u) fin⟩
    · exact .inr ⟨_, rfl, a, rfl, ⟨_, Same.tup s2 z⟩, for_tup (K := g.K) (a := a) (xs := xs) (fun i σ H' => ∃ (kept : List Int) (p : Option V), σ = [some (.ref a), some (.int m), some (.ref l), p] ∧ Same H H' ∧ H' l = some (.lst (kept.map V.int)) ∧ its.take i = kept.map some ∧ badD m its [] 0 = badD m (its.drop i) kept i)
        ⟨[], none, rfl, s2, upd_same, rfl, rfl⟩ (fun i σ H' _ ⟨_, _, _, sm, _⟩ => Same.tup sm z) (fun i v σ H' hv w => turn i v σ H' _ hv w fun _ _ u => u) fin⟩
end Sd
namespace Sd
open PySem PySem.Spec PyProof.Rows L2
/-! ### loops in one shape -/
theorem lp_tup {K : PySem.W.Frag} {a : Addr} {xs : List V} {H0 : Hp} {Fin : Hp → Prop} {B : V → Hp → (Hp → Prop) → Prop} (Pv : Nat → Hp → Prop) (h0 : Pv 0 H0) (hl : ∀ i H, i ≤ xs.length → Pv i H → SqT K H a xs) (hs : ∀ i x H, xs[i]? = some x → Pv i H → B x H (Pv (i + 1))) (hd : ∀ H, Pv xs.length H → Fin H) :
    ∃ W : Nat → Nat → Hp → Prop, (∃ m, W 0 m H0) ∧ ∀ j k H, W j k H → ((Itt K a).stop j H ∧ Fin H) ∨ ((Itt K a).go j H ∧ ∃ Nx : Hp → Prop, (∀ H', Nx H' → ∃ k', k' < k ∧ W (j + 1) k' H') ∧ ∀ x H', (Itt K a).yld j H x H' → B x H' Nx) := by
  refine ⟨fun i m H => m = xs.length - i ∧ i ≤ xs.length ∧ Pv i H, ⟨xs.length, by simp, Nat.zero_le _, h0⟩, ?_⟩
  rintro i m H ⟨rfl, hi, p⟩
  have q := hl i H hi p
  by_cases hlt : i < xs.length
  · refine .inr ⟨⟨xs, xs[i], q, by simp [hlt]⟩, Pv (i + 1), fun H' p' => ⟨xs.length - (i + 1), by omega, rfl, hlt, p'⟩, fun x H' y => ?_⟩
    obtain ⟨e, y⟩ := y
    subst e
    exact hs i x _ (y xs q) p
  · have e : i = xs.length := by omega
    subst e
    exact .inl ⟨⟨xs, q, Nat.le_refl _⟩, hd H p⟩
theorem lp_list {K : PySem.W.Frag} {a : Addr} {xs : List V} {H0 : Hp} {Fin : Hp → Prop} {B : V → Hp → (Hp → Prop) → Prop} (Pv : Nat → Hp → Prop) (h0 : Pv 0 H0) (hl : ∀ i H, i ≤ xs.length → Pv i H → SqL K H a xs) (hs : ∀ i x H, xs[i]? = some x → Pv i H → B x H (Pv (i + 1))) (hd : ∀ H, Pv xs.length H → Fin H) :
    ∃ W : Nat → Nat → Hp → Prop, (∃ m, W 0 m H0) ∧ ∀ j k H, W j k H → ((Itl K a).stop j H ∧ Fin H) ∨ ((Itl K a).go j H ∧ ∃ Nx : Hp → Prop, (∀ H', Nx H' → ∃ k', k' < k ∧ W (j + 1) k' H') ∧ ∀ x H', (Itl K a).yld j H x H' → B x H' Nx) := by
  refine ⟨fun i m H => m = xs.length - i ∧ i ≤ xs.length ∧ Pv i H, ⟨xs.length, by simp, Nat.zero_le _, h0⟩, ?_⟩
  rintro i m H ⟨rfl, hi, p⟩
  have q := hl i H hi p
  by_cases hlt : i < xs.length
  · refine .inr ⟨⟨xs, xs[i], q, by simp [hlt]⟩, Pv (i + 1), fun H' p' => ⟨xs.length - (i + 1), by omega, rfl, hlt, p'⟩, fun x H' y => ?_⟩
    obtain ⟨e, y⟩ := y
    subst e
    exact hs i x _ (y xs q) p
  · have e : i = xs.length := by omega
    subst e
    exact .inl ⟨⟨xs, q, Nat.le_refl _⟩, hd H p⟩
/-! ### a system -/
abbrev Rw := Int × List Step
def HandR (g : Ga) (H : Hp) (v : V) (r : Rw) : Prop := ∃ a, v = .ref a ∧ HandAt g H a r.1 r.2
theorem HandR.mono {g : Ga} {H H' : Hp} {v : V} {r : Rw} (s : Same H H') (h : HandR g H v r) : HandR g H' v r := let ⟨a, e, z⟩ := h; ⟨a, e, HandAt.mono s z⟩
def sysWords (rs : List Rw) : List Str := uniq (rs.flatMap fun r => wordsOf r.2)
def sysF (h d w s : Addr) : List (Str × V) := [("hands", .ref h), ("diligent", .ref d), ("words", .ref w), ("start", .ref s)]
structure SysAt (g : Ga) (H : Hp) (x : Addr) (rs : List Rw) (ds : List Int) : Prop where
  ex : ∃ (dx h d w s : Addr) (xs : List V), H x = some (.ins g.cSystem dx (sysF h d w s)) ∧ SqT g.K H h xs ∧ Paired (HandR g H) xs rs ∧ SqT g.K H d (ds.map V.int) ∧ SqT g.K H w ((sysWords rs).map V.str) ∧ H s = some (.tup ((rs.map (·.1)).map V.int))
theorem SysAt.mono {g : Ga} {H H' : Hp} {x : Addr} {rs : List Rw} {ds : List Int} (e : Same H H') (h : SysAt g H x rs ds) : SysAt g H' x rs ds := by
  obtain ⟨dx, h, d, w, s, xs, h1, h2, h3, h4, h5, h6⟩ := h.ex
  exact ⟨dx, h, d, w, s, xs, e _ _ h1, Same.tup e h2, paired_mono (fun _ _ z => z.mono e) h3, Same.tup e h4, Same.tup e h5, e _ _ h6⟩
/-- an own class whose instances isinstance may look at -/
structure IsC (g : Ga) (C : Addr) : Prop where
  cl : Cls g.K C
  ha : PySem.W.findIn g.K (.ref C) "__class__" = some (some (.builtin "object.__class__"))
  hn : PySem.W.specialIn g.K (.builtin "object.__class__") "__get__" = some (some (.builtin "getset_descriptor.__get__"))
  ht : PySem.W.takesIn g.K (.builtin "object.__class__") = some true
  hm : PySem.W.mroIn g.K C (.type "object") = some true
def isB (K : PySem.W.Frag) (x : Str) : Bool := decide (PySem.W.findIn K (.ref (He.ga K x)) "__class__" = some (some (.builtin "object.__class__"))) && (decide (PySem.W.specialIn K (.builtin "object.__class__") "__get__" = some (some (.builtin "getset_descriptor.__get__"))) && (decide (PySem.W.takesIn K (.builtin "object.__class__") = some true) && (decide (PySem.W.mroIn K (He.ga K x) (.type "object") = some true) && decide (PySem.W.kitOne K (.ref (He.ga K x)) (.ref (He.ga K x)) = some true))))
theorem isB_ok {g : Ga} {x : Str} (cl : Cls g.K (g.c x)) (h : isB g.K x = true) : IsC g (g.c x) ∧ PySem.W.kitOne g.K (.ref (g.c x)) (.ref (g.c x)) = some true := by
  obtain ⟨h1, h⟩ := Bool.and_eq_true_iff.mp h
  obtain ⟨h2, h⟩ := Bool.and_eq_true_iff.mp h
  obtain ⟨h3, h⟩ := Bool.and_eq_true_iff.mp h
  obtain ⟨h4, h5⟩ := Bool.and_eq_true_iff.mp h
  exact ⟨⟨cl, of_decide_eq_true h1, of_decide_eq_true h2, of_decide_eq_true h3, of_decide_eq_true h4⟩, of_decide_eq_true h5⟩
structure SysC (g : Ga) : Prop where
  ih : IsC g g.cHand
  cl : Cls g.K g.cSystem
  n1 : NoAttr g.K g.cSystem "hands"
  n2 : NoAttr g.K g.cSystem "diligent"
  n3 : NoAttr g.K g.cSystem "words"
  n4 : NoAttr g.K g.cSystem "start"
  kh : PySem.W.kitOne g.K (.ref g.cHand) (.ref g.cHand) = some true
theorem putF_sys (h d w s : Addr) : putF "start" (.ref s) (putF "words" (.ref w) (putF "diligent" (.ref d) (putF "hands" (.ref h) []))) = sysF h d w s := by
  have e1 : putF "diligent" (.ref d) (putF "hands" (.ref h) []) = ([("hands", V.ref h), ("diligent", V.ref d)] : List (Str × V)) := putF_new (fs := [(("hands" : Str), V.ref h)]) (by simp; decide +kernel)
  have e2 : putF "words" (.ref w) ([("hands", V.ref h), ("diligent", V.ref d)] : List (Str × V)) = ([("hands", V.ref h), ("diligent", V.ref d), ("words", V.ref w)] : List (Str × V)) := putF_new (by simp; decide +kernel)
  rw [e1, e2]
  exact putF_new (by simp; decide +kernel)
def DilV (g : Ga) (H : Hp) (w : V) (m : Nat) (ds : List Int) : Prop := (w = .non ∧ ds = (List.range m).map fun k : Nat => (k : Int)) ∨ ∃ ks : List Int, seqOf g.K H w (ks.map V.int) ∧ ks.length ≤ 1000 ∧ ks.Nodup ∧ (∀ k ∈ ks, 0 ≤ k ∧ k < m) ∧ AscI ds ∧ ∀ k, k ∈ ds ↔ k ∈ ks
theorem DilV.mono {g : Ga} {H H' : Hp} {w : V} {m : Nat} {ds : List Int} (s : Same H H') (h : DilV g H w m ds) : DilV g H' w m ds := by
  rcases h with h | ⟨ks, h, r⟩
  · exact .inl h
  · exact .inr ⟨ks, seqOf_mono s h, r⟩
theorem badD_ok {m : Nat} : ∀ (ks kept : List Int) (i : Nat), (kept ++ ks).Nodup → (∀ k ∈ ks, 0 ≤ k ∧ k < m) → badD m (ks.map some) kept i = none
  | [], _, _, _, _ => rfl
  | k :: ks, kept, i, nd, h => by
    rw [List.map_cons, badD]
    have h1 := h k List.mem_cons_self
    have nk : k ∉ kept := fun z => (List.nodup_append.mp nd).2.2 k z k List.mem_cons_self rfl
    rw [if_pos ⟨h1.1, h1.2, nk⟩]
    exact badD_ok ks (kept ++ [k]) (i + 1) (by simpa using nd) fun x hx => h x (List.mem_cons_of_mem _ hx)
def sp_System_init (g : Ga) : Sp := fun vs H Q E => ∃ (x dx : Addr) (v w : V) (xs : List V) (rs : List Rw) (ds : List Int), vs = [.ref x, v, w] ∧ H x = some (.ins g.cSystem dx []) ∧ seqOf g.K H v xs ∧ Paired (HandR g H) xs rs ∧ 1 ≤ rs.length ∧ rs.length ≤ 4 ∧ (∀ r ∈ rs, (wordsOf r.2).length ≤ 8) ∧ DilV g H w rs.length ds ∧
  (12 < (sysWords rs).length → RaisesX E g.cTooMany "limit" (.int 12) H) ∧ ((sysWords rs).length ≤ 12 → ∀ H', Ch [x] H H' → SysAt g H' x rs ds → Q .non H')
theorem words_two {g : Ga} {H : Hp} {Q : VK} {a b c d : Option V} {p : Addr} {xs : List V} {rs : List Rw} (T : HandC g) (hs : SqT g.K H p xs) (hL : Paired (HandR g H) xs rs) (few : rs.length ≤ 4) (w8 : ∀ r ∈ rs, (wordsOf r.2).length ≤ 8)
    (q : ∀ t H', Same H H' → H t = none → H' t = some (.lst ((sysWords rs).map V.str)) → Q (.ref t) H') :
    tCB (rSortX g.w) (tCons (tScT2 g.w (iTup g.K (tVar 3)) (gName 6) tYes (iTup g.K (tFld g.K (tVar 6) "words")) (gName 7) tYes (tVar 7) [6, 7] [7]) tNil) [a, b, c, some (.ref p), d, none, none, none] H Q := by
  have lx := hL.length
  refine ⟨_, rfl, p, rfl, ⟨_, hs⟩, fun D hD => ?_⟩
  have fl : ∀ rs : List Rw, (∀ r ∈ rs, (wordsOf r.2).length ≤ 8) → (rs.flatMap fun r => wordsOf r.2).length ≤ 8 * rs.length := fun rs => by
    induction rs with
    | nil => intro _; simp
    | cons r rs ih =>
      intro h
      have h1 := h r List.mem_cons_self
      have h2 := ih fun x hx => h x (List.mem_cons_of_mem _ hx)
      rw [List.flatMap_cons, List.length_append, List.length_cons]
      omega
  refine lp_tup (K := g.K) (a := p) (xs := xs) (fun i H' => Same H H' ∧ H' D = some (TxO g.w D (allT ((rs.take i).flatMap fun r => wordsOf r.2)))) ⟨Same.new hD, upd_same⟩ (fun i H' _ z => Same.tup z.1 hs) ?_ ?_
  · rintro i x H' hx ⟨sm, hD'⟩
    obtain ⟨r, hr, y, rfl, hy⟩ := paired_get hL hx
    obtain ⟨dx, p1, q1, r1, ys, g1, g2, g3, g4, g5⟩ := (HandAt.mono sm hy).ex
    have tk := fl (rs.take i) fun r h => w8 r (List.mem_of_mem_take h)
    have rl : (rs.take i).length ≤ 4 := by rw [List.length_take]; omega
    have wl := w8 r (List.mem_of_getElem? hr)
    refine ⟨rfl, ⟨_, rfl, y, _, dx, _, _, rfl, g1, T.cl, T.n3, fld_words, q1, rfl, ⟨_, g4⟩, ?_⟩⟩
    refine lp_tup (K := g.K) (a := q1) (xs := (wordsOf r.2).map V.str) (fun j H2 => Same H H2 ∧ SqT g.K H2 q1 ((wordsOf r.2).map V.str) ∧ H2 D = some (TxO g.w D (allT (((rs.take i).flatMap fun r => wordsOf r.2) ++ (wordsOf r.2).take j)))) ⟨sm, g4, by rw [List.take_zero, List.append_nil]; exact hD'⟩ (fun j H2 _ z => z.2.1) ?_ ?_
    · rintro j v H2 hv ⟨sm2, g42, hD2⟩
      obtain ⟨z, hz, rfl⟩ := map_get hv
      refine ⟨rfl, ⟨_, rfl, z, _, rfl, hD2, ?_, Same.own sm2 hD, ?_, ?_⟩⟩
      · have h1 := len_allT (((rs.take i).flatMap fun r => wordsOf r.2) ++ (wordsOf r.2).take j)
        rw [List.length_append, List.length_take] at h1
        unfold scanBound; omega
      · exact sqT_upd hD2 (fun ys z => by cases z) (fun v w z => by cases z) g42
      · rw [upd_same, List.take_add_one, hz, Option.toList_some, ← List.append_assoc, allT_snoc]
    · rintro H2 ⟨sm2, _, hD2⟩
      rw [List.length_map, List.take_length] at hD2
      refine ⟨sm2, ?_⟩
      rw [List.take_add_one, hr, Option.toList_some, List.flatMap_append]
      rw [show List.flatMap (fun r : Rw => wordsOf r.2) [r] = wordsOf r.2 by simp]
      exact hD2
  · rintro H' ⟨sm, hD'⟩
    rw [lx, List.take_length] at hD'
    refine ⟨D, _, rfl, hD', fun t ht => ?_⟩
    rw [uniq_allT]
    have nt : H t = none := sm.free ht
    exact q t _ (Same.own sm nt) nt upd_same

def t_Sys_2 (g : Ga) (E : XK) : TS := (tSeq (tAsg (tCB (rSortX g.w) (tCons (tScT2 g.w (iTup g.K (tVar 3)) (gName 6) tYes (iTup g.K (tFld g.K (tVar 6) "words")) (gName 7) tYes (tVar 7) [6, 7] [7]) tNil)) (gName 5)) (tSeq (tIfS (tTest (tOp rGt (tCB (rLenS g.K) (tCons (tVar 5) tNil)) (tC (.int 12)))) (tRaiseX g.cTooMany "limit" E (tCons (tC (.int 12)) tNil)) tNext) (tSeq (sFld g.K (tVar 0) (tVar 3) "hands") (tSeq (sFld g.K (tVar 0) (tVar 4) "diligent") (tSeq (sFld g.K (tVar 0) (tCB (rTupS g.K) (tCons (tVar 5) tNil)) "words") (sFld g.K (tVar 0) (tCB (rTupS g.K) (tCons (tLc (iTup g.K (tVar 3)) (gName 6) tYes (tFld g.K (tVar 6) "start") [6]) tNil)) "start"))))))
def t_System_init (g : Ga) (E : XK) : TS := (tSeq (tAsg (tCall (sp_checked_hands g) [] E (tCons (tVar 1) tNil)) (gName 3)) (tSeq (tAsg (tCall (sp_checked_diligent g) [] E (tCons (tVar 2) (tCons (tCB (rLenS g.K) (tCons (tVar 3) tNil)) tNil))) (gName 4)) (t_Sys_2 g E)))
theorem hand_is {g : Ga} {H : Hp} {v : V} {r : Rw} (ih : IsC g g.cHand) (k : PySem.W.kitOne g.K (.ref g.cHand) (.ref g.cHand) = some true) (h : HandR g H v r) : IsH g H v true := by
  obtain ⟨a, rfl, z⟩ := h
  obtain ⟨dx, p1, q1, r1, ys, g1, _⟩ := z.ex
  exact ⟨_, .base (.ins g1 ih.cl ih.ha ih.hn ih.ht ih.hm), k⟩
theorem hands_are {g : Ga} {H : Hp} (ih : IsC g g.cHand) (k : PySem.W.kitOne g.K (.ref g.cHand) (.ref g.cHand) = some true) : ∀ {xs : List V} {rs : List Rw}, Paired (HandR g H) xs rs → Paired (IsH g H) xs (xs.map fun _ => true)
  | _, _, .nil => .nil
  | _, _, .cons a b => .cons (hand_is ih k a) (hands_are ih k b)
theorem items_int {K : PySem.W.Frag} {H : Hp} : ∀ ks : List Int, Paired (ItemI K H) (ks.map V.int) (ks.map some)
  | [] => .nil
  | _ :: ks => .cons rfl (items_int ks)
theorem e_fldT {K : PySem.W.Frag} {r : List V → Hp → VK → Prop} {te to : TE} {f : Str} {D : Ends} {σ : L2.St} {H : Hp} (h : te σ H fun x H1 => r [x] H1 fun v H2 => sFld K to (tC v) f D σ H2) : sFld K to (tCB r (tCons te tNil)) f D σ H := h
theorem ins_nt {C dx : Addr} {fs : List (Str × V)} : (∀ ys, HO.ins C dx fs ≠ .tup ys) ∧ ∀ v w, HO.ins C dx fs ≠ .frz v w := ⟨(fun ys z => by cases z), fun v w z => by cases z⟩
theorem ch_keep {x b : Addr} {H H' : Hp} {o0 o1 : HO} (ch : Ch [x] H H') (hx : H x = some o0) (hb : H b = some o1) (d : o1 ≠ o0) : H' b = some o1 := ch b o1 hb (by simpa using ne_of hb hx d)
theorem ch_tup {K : PySem.W.Frag} {x b : Addr} {H H' : Hp} {o0 : HO} {ys : List V} (ch : Ch [x] H H') (hx : H x = some o0) (nt : (∀ ys, o0 ≠ .tup ys) ∧ ∀ v w, o0 ≠ .frz v w) (h : SqT K H b ys) : SqT K H' b ys := by
  rcases h with (h | ⟨u, h⟩) | h
  · exact .inl (.inl (ch_keep ch hx h fun z => nt.1 _ z.symm))
  · exact .inl (.inr ⟨u, ch_keep ch hx h fun z => nt.2 _ _ z.symm⟩)
  · exact .inr h
theorem HandAt.ch {g : Ga} {H H' : Hp} {x a C dx : Addr} {s0 : Int} {L : List Step} (ch : Ch [x] H H') (hx : H x = some (.ins C dx [])) (h : HandAt g H a s0 L) : HandAt g H' a s0 L := by
  obtain ⟨dy, p, q, r, xs, h1, h2, h3, h4, h5⟩ := h.ex
  have nt := ins_nt (C := C) (dx := dx) (fs := [])
  exact ⟨dy, p, q, r, xs, ch_keep ch hx h1 (fun z => by cases z), ch_tup ch hx nt h2, paired_mono (fun _ _ ⟨b, e, z⟩ => ⟨b, e, ch_tup ch hx nt z⟩) h3, ch_tup ch hx nt h4, ch_tup ch hx nt h5⟩
/-- [hand.start for hand in kept] -/
theorem lc_starts {g : Ga} {H : Hp} {Q : VK} {a b c d e f : Option V} {p : Addr} {xs : List V} {rs : List Rw} (T : HandC g) (hs : SqT g.K H p xs) (hL : Paired (HandR g H) xs rs) (few : rs.length ≤ 4)
    (q : ∀ D H', Same H H' → H D = none → H' D = some (.lst ((rs.map (·.1)).map V.int)) → Q (.ref D) H') :
    tLc (iTup g.K (tVar 3)) (gName 6) tYes (tFld g.K (tVar 6) "start") [6] [a, b, c, some (.ref p), d, e, none, f] H Q := by
  have lx := hL.length
  refine ⟨_, rfl, p, rfl, ⟨_, hs⟩, fun D hD => ?_⟩
  refine lc_tup (K := g.K) (a := p) (xs := xs) (fun i H' => Same H H' ∧ H' D = some (.lst (((rs.take i).map (·.1)).map V.int))) ⟨Same.new hD, upd_same⟩ (fun i H' _ z => Same.tup z.1 hs) ?_ ?_
  · rintro i x H' hx ⟨sm, hD'⟩
    obtain ⟨r, hr, y, rfl, hy⟩ := paired_get hL hx
    obtain ⟨dx, p1, q1, r1, ys, g1, g2, g3, g4, g5⟩ := (HandAt.mono sm hy).ex
    refine ⟨rfl, ⟨_, rfl, y, _, dx, _, _, rfl, g1, T.cl, T.n1, fld_start, _, hD', ?_, Same.own sm hD, ?_⟩⟩
    · rw [List.length_map, List.length_map, List.length_take]; exact small1000 (by omega)
    · rw [upd_same, List.take_add_one, hr, Option.toList_some, List.map_append, List.map_append]; rfl
  · rintro H' ⟨sm, hD'⟩
    rw [lx, List.take_length] at hD'
    exact q D H' sm hD hD'
theorem pure_System_init {g : Ga} {vs : List V} {H : Hp} {Q : VK} {E : XK} {N : List Str} (TH : HandC g) (T : SysC g) (hN : N.length = 8) (h : sp_System_init g vs H Q E) : t_System_init g E (endsQ Q) (L2.start N vs) H := by
  obtain ⟨x, dx, v, w, xs, rs, ds, rfl, hx, hv, hh, r1, r4, w8, hd, many, q⟩ := h
  have e0 : L2.start N [.ref x, v, w] = [some (.ref x), some v, some w, none, none, none, none, none] := by unfold L2.start; rw [hN]; rfl
  rw [e0]
  have lx := hh.length
  refine ⟨_, rfl, v, rfl, .inr ⟨xs, hv, .inr ⟨⟨by omega, by omega⟩, xs.map fun _ => true, ?_, ?_, fun _ p H1 s1 hp => ?_⟩⟩⟩
  · exact hands_are T.ih T.kh hh
  · intro i hi
    rw [List.getElem?_map] at hi
    cases e : xs[i]? with
    | none => rw [e] at hi; cases hi
    | some y => rw [e] at hi; cases hi
  have hh1 : Paired (HandR g H1) xs rs := paired_mono (fun _ _ z => z.mono s1) hh
  refine ⟨_, rfl, _, rfl, p, xs, rfl, .inr hp, w, rs.length, by rw [lx]; rfl, by omega, ?_⟩
  have fin : ∀ (d : Addr) (H2 : Hp), Same H1 H2 → H2 d = some (.tup (ds.map V.int)) → t_Sys_2 g E (endsQ Q) [some (.ref x), some v, some w, some (.ref p), some (.ref d), none, none, none] H2 := by
    intro d H2 s2 hd2
    have s02 := s1.trans s2
    have hh2 : Paired (HandR g H2) xs rs := paired_mono (fun _ _ z => z.mono s2) hh1
    refine s_asg (words_two TH (Same.tup s2 hp) hh2 r4 w8 fun t H3 s3 nt ht => ?_)
    have s03 := s02.trans s3
    refine s_if ⟨_, rfl, t, _, rfl, .inl (SqL.of ht), _, _, rfl, rfl, _, rfl, ?_⟩
    rw [List.length_map]
    by_cases c : (12 : Int) < ((sysWords rs).length : Int)
    · rw [decide_eq_true c]
      exact iteT (raiseX s03 (many (by omega)) fun Q q => q)
    · rw [decide_eq_false c]
      refine iteF ?_
      have hx3 := s03 _ _ hx
      refine ⟨_, rfl, _, rfl, x, _, dx, _, rfl, hx3, T.cl, T.n1, (by show 0 < 1000; decide), ?_⟩
      refine ⟨_, rfl, _, rfl, x, _, dx, _, rfl, upd_same, T.cl, T.n2, (by show 1 < 1000; decide), ?_⟩
      rw [upd_upd]
      have ntx : t ≠ x := ne_of_none (a := x) (b := t) (s02 _ _ hx) nt |>.symm
      generalize hf2 : putF "diligent" (.ref d) (putF "hands" (.ref p) []) = f2
      have lf2 : f2.length ≤ 2 := by
        rw [← hf2]
        have h1 := putF_len "diligent" (.ref d) (putF "hands" (.ref p) [])
        have h2 := putF_len "hands" (.ref p) []
        have h3 : ([] : List (Str × V)).length = 0 := rfl
        omega
      have ht4 : (upd H3 x (.ins g.cSystem dx f2)) t = some (.lst ((sysWords rs).map V.str)) := by rw [upd_ne ntx]; exact ht
      refine ⟨_, rfl, t, _, rfl, .inl ⟨SqL.of ht4, fun u hu => ?_⟩⟩
      generalize hH4 : upd H3 x (.ins g.cSystem dx f2) = H4 at hu ht4
      have hx4 : H4 x = some (.ins g.cSystem dx f2) := by rw [← hH4]; exact upd_same
      have s45 : Same H4 (upd H4 u (.tup ((sysWords rs).map V.str))) := Same.new hu
      refine ⟨_, rfl, x, _, dx, _, rfl, s45 _ _ hx4, T.cl, T.n3, (by omega), ?_⟩
      have hd3 : H3 d = some (.tup (ds.map V.int)) := s3 _ _ hd2
      have chx4 : Ch [x] H H4 := by rw [← hH4]; exact (Ch.same s03).at (by simp)
      have p4 : SqT g.K H4 p xs := by rw [← hH4]; exact sqT_upd hx3 ins_nt.1 ins_nt.2 (Same.tup s3 (Same.tup s2 hp))
      have d4 : SqT g.K H4 d (ds.map V.int) := by rw [← hH4]; exact sqT_upd hx3 ins_nt.1 ins_nt.2 (SqT.of hd3)
      generalize hH5 : upd H4 u (.tup ((sysWords rs).map V.str)) = H5 at s45
      have hx5 := s45 _ _ hx4
      have u5 : SqT g.K H5 u ((sysWords rs).map V.str) := by rw [← hH5]; exact SqT.of upd_same
      have chx5 : Ch [x] H H5 := chx4.trans (Ch.same s45)
      generalize hf3 : putF "words" (.ref u) f2 = f3
      have lf3 : f3.length ≤ 3 := by
        have h1 := putF_len "words" (.ref u) f2
        rw [hf3] at h1
        omega
      generalize hH6 : upd H5 x (.ins g.cSystem dx f3) = H6
      have hx6 : H6 x = some (.ins g.cSystem dx f3) := by rw [← hH6]; exact upd_same
      have chx6 : Ch [x] H H6 := by rw [← hH6]; exact chx5.at (by simp)
      have p6 : SqT g.K H6 p xs := by rw [← hH6]; exact sqT_upd hx5 ins_nt.1 ins_nt.2 (Same.tup s45 p4)
      have d6 : SqT g.K H6 d (ds.map V.int) := by rw [← hH6]; exact sqT_upd hx5 ins_nt.1 ins_nt.2 (Same.tup s45 d4)
      have u6 : SqT g.K H6 u ((sysWords rs).map V.str) := by rw [← hH6]; exact sqT_upd hx5 ins_nt.1 ins_nt.2 u5
      have hh6 : Paired (HandR g H6) xs rs := paired_mono (fun _ _ ⟨a, e, z⟩ => ⟨a, e, HandAt.ch chx6 hx z⟩) hh
      refine e_fldT (lc_starts TH p6 hh6 r4 fun D H7 s7 nD hD => ?_)
      refine ⟨D, _, rfl, .inl ⟨SqL.of hD, fun y hy => ?_⟩⟩
      have s8 : Same H7 (upd H7 y (.tup ((rs.map (·.1)).map V.int))) := Same.new hy
      have s68 := s7.trans s8
      have hx8 := s68 _ _ hx6
      refine ⟨_, rfl, x, _, dx, _, rfl, hx8, T.cl, T.n4, (by omega), ?_⟩
      refine q (by omega) _ ((chx6.trans (Ch.same s68)).at (by simp)) ⟨dx, p, d, u, y, xs, ?_, sqT_upd hx8 ins_nt.1 ins_nt.2 (Same.tup s68 p6), ?_, sqT_upd hx8 ins_nt.1 ins_nt.2 (Same.tup s68 d6), sqT_upd hx8 ins_nt.1 ins_nt.2 (Same.tup s68 u6), ?_⟩
      · rw [upd_same, ← hf3, ← hf2, putF_sys]
      · exact paired_mono (fun _ _ ⟨a, e, z⟩ => ⟨a, e, HandAt.ch ((chx6.trans (Ch.same s68)).at (by simp)) hx z⟩) hh
      · rw [upd_ne (ne_of upd_same hx8 (fun z => by cases z)), upd_same]
  rcases hd with ⟨rfl, rfl⟩ | ⟨ks, hk, kl, nd, rng, asc, mem⟩
  · exact .inl ⟨rfl, fun d H2 s2 nd hd2 => fin d H2 s2 (by rw [List.map_map]; exact hd2)⟩
  · refine .inr (.inr ⟨ks.map V.int, ks.map some, seqOf_mono s1 hk, by rw [List.length_map]; exact kl, ?_, ?_, ?_⟩)
    · exact items_int ks
    · intro i v hb
      rw [badD_ok ks [] 0 (by simpa using nd) rng] at hb
      cases hb
    · intro ks2 ks' _ e pm pw d H2 s2 nd2 hd2
      have e2 : ks = ks2 := (List.map_inj_right (f := some) (fun a b z => Option.some.inj z)).mp e
      subst e2
      have e3 : ks' = ds := ascI_ext (ascI_of pw (pm.nodup_iff.mpr nd)) asc fun y => (pm.mem_iff).trans (mem y).symm
      subst e3
      exact fin d H2 s2 hd2
end Sd
namespace Sd
open PySem PySem.Spec PyProof.Rows L2
/-! ### _law_rows -/
structure RowsAt (g : Ga) (H : Hp) (rl : Addr) (rs : List Rw) : Prop where
  ex : ∃ xs : List V, H rl = some (.lst xs) ∧ Paired (RowAt g.K H) xs rs
theorem RowsAt.mono {g : Ga} {H H' : Hp} {rl : Addr} {rs : List Rw} (s : Same H H') (h : RowsAt g H rl rs) : RowsAt g H' rl rs := let ⟨xs, a, b⟩ := h; ⟨xs, s _ _ a, paired_mono (fun _ _ z => z.mono s) b⟩
/-- what is drawn: rows and diligent hands -/
structure DrawnRows (zs : List Str) (mh mw ms : Nat) (rs : List Rw) (ks : List Int) : Prop where
  ok : ∀ r ∈ rs, GoodRow zs ms r
  zl : zs.length ≤ mw
  zn : ∀ z ∈ zs, IsName z
  n1 : 1 ≤ rs.length
  n2 : rs.length ≤ mh
  asc : AscI ks
  rng : ∀ k ∈ ks, 0 ≤ k ∧ k < (rs.length : Int)
def sp_law_rows (g : Ga) : Sp := fun vs H Q _ => ∃ (a : Addr) (ns : List Int) (mh mw ms mt : Nat), vs = [.ref a, .int mh, .int mw, .int ms, .int mt] ∧ SqL g.K H a (ns.map V.int) ∧ 1 ≤ mh ∧ mh ≤ 8 ∧ 1 ≤ mw ∧ mw ≤ 16 ∧ 1 ≤ ms ∧ ms ≤ 8 ∧ 1 ≤ mt ∧ mt ≤ 24 ∧
  ∀ (t rl cl : Addr) (rs : List Rw) (ks : List Int) (zs : List Str) (H' : Hp), Same H H' → H t = none → H rl = none → H cl = none → H' t = some (.tup [.ref rl, .ref cl]) → RowsAt g H' rl rs → H' cl = some (.lst (ks.map V.int)) → DrawnRows zs mh mw ms rs ks → Q (.ref t) H' 
def t_lr_4 (g : Ga) : TS := (tRet (tTup (tCons (tVar 9) (tCons (tLc (iRng1 (tCons (tVar 6) tNil)) (gName 10) (tTest (tOp rGt (tOp (rIxL g.K) (tVar 7) (tVar 10)) (tC (.int 0)))) (tVar 10) [10]) tNil))))
def t_lr_3 (g : Ga) : TS := (tSeq (tAsg (tLst tNil) (gName 9)) (tSeq (tFor (iRng1 (tCons (tVar 6) tNil)) (gName 10) (tDrop (tBM g.K "list" rApp (tVar 9) (tCons (tCall (sp_law_hand g) [] E0 (tCons (tCall (sp_law_pool g) [] E0 (tCons (tCall (sp_law_cell g) [] E0 (tCons (tVar 0) (tCons (tOp rAdd (tC (.int 1)) (tVar 10)) tNil))) tNil)) (tCons (tVar 8) (tCons (tVar 3) (tCons (tVar 4) tNil))))) tNil)))) (t_lr_4 g)))
def t_lr_2 (g : Ga) : TS := (tSeq (tAsg (tCall (sp_law_names g) [] E0 (tCons (tVar 5) (tCons (tOp rAdd (tC (.int 1)) (tCall (sp_law_draw g) [] E0 (tCons (tVar 5) (tCons (tVar 2) tNil)))) tNil))) (gName 8)) (t_lr_3 g))
def t_lr_1 (g : Ga) : TS := (tSeq (tAsg (tLc (iRng1 (tCons (tVar 6) tNil)) (gName 10) tYes (tCall (sp_law_draw g) [] E0 (tCons (tVar 5) (tCons (tC (.int 3)) tNil))) [10]) (gName 7)) (t_lr_2 g))
def t_law_rows (g : Ga) : TS := (tSeq (tAsg (tCall (sp_law_pool g) [] E0 (tCons (tCall (sp_law_cell g) [] E0 (tCons (tVar 0) (tCons (tC (.int 0)) tNil))) tNil)) (gName 5)) (tSeq (tAsg (tOp rAdd (tC (.int 1)) (tCall (sp_law_draw g) [] E0 (tCons (tVar 5) (tCons (tVar 1) tNil)))) (gName 6)) (t_lr_1 g)))

theorem filt_asc (f : Nat → Bool) : ∀ n : Nat, AscI (((List.range n).filter f).map fun k : Nat => (k : Int)) := fun n => by
  unfold AscI
  rw [List.pairwise_map]
  exact (List.Pairwise.filter _ List.pairwise_lt_range).imp fun h => by omega
theorem pure_lr_4 {g : Ga} {H0 H : Hp} {a b c d e f h i : Option V} {tl : List (Option V)} {ea rl : Addr} {m : Nat} {es : List Int} {rs : List Rw} {Q : VK} (sm : Same H0 H) (hE : H ea = some (.lst (es.map V.int))) (le : es.length = m) (m8 : m ≤ 8) (hr : RowsAt g H rl rs)
    (q : ∀ (t cl : Addr) (ks : List Int) (H' : Hp), Same H H' → H0 t = none → H0 cl = none → H' t = some (.tup [.ref rl, .ref cl]) → H' cl = some (.lst (ks.map V.int)) → AscI ks → (∀ k ∈ ks, 0 ≤ k ∧ k < (m : Int)) → Q (.ref t) H') :
    t_lr_4 g (endsQ Q) (a :: b :: c :: d :: e :: f :: some (.int m) :: some (.ref ea) :: h :: some (.ref rl) :: i :: tl) H := by
  refine ⟨_, rfl, _, rfl, _, rfl, by omega, by omega, fun D hD => ?_⟩
  rw [Int.toNat_natCast]
  have eD : ea ≠ D := ne_of_none hE hD
  refine lc_range (n := m) (fun i H' => Same H H' ∧ H' D = some (.lst ((((List.range i).filter fun k => decide (0 < es.getD k 0)).map fun k : Nat => (k : Int)).map V.int))) ⟨Same.new hD, upd_same⟩ ?_ ?_
  · rintro i H' hi ⟨sm', hD'⟩
    have hE' := sm' _ _ hE
    have e1 : es[i]? = some (es.getD i 0) := by
      rw [List.getD_eq_getElem?_getD, List.getElem?_eq_getElem (by omega)]; rfl
    have at1 : atI (es.map V.int) (0 + (i : Int)) = some (.int (es.getD i 0)) := by
      rw [Int.zero_add]
      exact atI_nat (by rw [List.getElem?_map, e1]; rfl)
    refine ⟨rfl, ⟨_, rfl, _, rfl, ea, _, _, _, rfl, rfl, SqL.of hE', at1, _, _, rfl, rfl, _, rfl, ?_⟩⟩
    have ll : ((List.range i).filter fun k => decide (0 < es.getD k 0)).length ≤ i := by
      have := List.length_filter_le (fun k => decide (0 < es.getD k 0)) (List.range i)
      rwa [List.length_range] at this
    by_cases c : 0 < es.getD i 0
    · rw [decide_eq_true c]
      refine iteT ⟨_, rfl, _, hD', ?_, Same.own sm' hD, ?_⟩
      · rw [List.length_map, List.length_map]; exact small1000 (by omega)
      · have e9 : [i].filter (fun k => decide (0 < es.getD k 0)) = [i] := by rw [List.filter_cons, if_pos (decide_eq_true c)]; rfl
        rw [upd_same, List.range_succ, List.filter_append, e9, List.map_append, List.map_append, Int.zero_add]; rfl
    · rw [decide_eq_false c]
      refine iteF ⟨sm', ?_⟩
      have e9 : [i].filter (fun k => decide (0 < es.getD k 0)) = [] := by rw [List.filter_cons, if_neg (by simpa using c)]; rfl
      rw [hD', List.range_succ, List.filter_append, e9, List.append_nil]
  · rintro H' ⟨sm', hD'⟩
    have nD := sm.free hD
    refine ⟨by show 2 ≤ sizeLine; decide, fun t ht => ?_⟩
    have s2 : Same H' (upd H' t (.tup [.ref rl, .ref D])) := Same.new ht
    refine q t D _ _ (sm'.trans s2) ((sm.trans sm').free ht) nD upd_same (s2 _ _ hD') (filt_asc _ m) fun k hk => ?_
    obtain ⟨j, hj, rfl⟩ := List.mem_map.mp hk
    have := List.mem_range.mp (List.mem_filter.mp hj).1
    omega
theorem pure_lr_3 {g : Ga} {H0 H : Hp} {b c f h : Option V} {a n ea : Addr} {m mh mw ms mt : Nat} {ns es : List Int} {zs : List Str} {Q : VK} (ha : SqL g.K H0 a (ns.map V.int)) (sm : Same H0 H) (hE : H ea = some (.lst (es.map V.int))) (le : es.length = m) (m1 : 1 ≤ m) (mm : m ≤ mh) (m8 : mh ≤ 8)
    (hn : H n = some (.lst (zs.map V.str))) (zne : zs ≠ []) (hz : ∀ z ∈ zs, IsName z) (zl : zs.length ≤ mw) (w16 : mw ≤ 16) (s1 : 1 ≤ ms) (s8 : ms ≤ 8) (t1 : 1 ≤ mt) (t24 : mt ≤ 24)
    (q : ∀ (t rl cl : Addr) (rs : List Rw) (ks : List Int) (zs : List Str) (H' : Hp), Same H0 H' → H0 t = none → H0 rl = none → H0 cl = none → H' t = some (.tup [.ref rl, .ref cl]) → RowsAt g H' rl rs → H' cl = some (.lst (ks.map V.int)) → DrawnRows zs mh mw ms rs ks → Q (.ref t) H') :
    t_lr_3 g (endsQ Q) [some (.ref a), b, c, some (.int ms), some (.int mt), f, some (.int m), some (.ref ea), some (.ref n), none, h] H := by
  refine ⟨by show 0 ≤ sizeLine; decide, fun rl hrl => ?_⟩
  have nrl : H0 rl = none := sm.free hrl
  have ner : ea ≠ rl := ne_of_none hE hrl
  have nnr : n ≠ rl := ne_of_none hn hrl
  refine ⟨_, rfl, _, rfl, by omega, by omega, for_range (n := m) (fun i σ H' => ∃ (xs : List V) (rs : List Rw) (u : Option V), σ = [some (.ref a), b, c, some (.int ms), some (.int mt), f, some (.int m), some (.ref ea), some (.ref n), some (.ref rl), u] ∧ Same H0 H' ∧ H' ea = some (.lst (es.map V.int)) ∧ H' n = some (.lst (zs.map V.str)) ∧ H' rl = some (.lst xs) ∧ Paired (RowP g.K (fun l => l ≠ rl) H') xs rs ∧ (∀ r ∈ rs, GoodRow zs ms r) ∧ rs.length = i)
    ⟨[], [], h, rfl, Same.own sm nrl, by rw [upd_ne ner]; exact hE, by rw [upd_ne nnr]; exact hn, upd_same, .nil, (fun r h => by cases h), rfl⟩ ?_ ?_⟩
  · rintro i σ H1 hi ⟨xs, rs, u, rfl, sm1, hE1, hn1, hr1, hp1, ok, li⟩
    refine ⟨_, rfl, .inl ⟨rfl, _, SqL.of hr1⟩, _, rfl, _, rfl, _, _, rfl, rfl, a, ns, 1 + i, ?_, sm1.seq ha, by omega, cellV ns (1 + i), rfl, fun p o po np => ?_⟩
    · show [V.ref a, V.int ((1 : Int) + (0 + (i : Int)))] = _
      rw [show (1 : Int) + (0 + (i : Int)) = ((1 + i : Nat) : Int) by omega]
    have s2 : Same H1 (upd H1 p o) := Same.new np
    refine ⟨_, rfl, _, rfl, _, rfl, p, n, ms, mt, o, zs, rfl, upd_same, po, s2 _ _ hn1, (ne_of_none hn1 np).symm, zne, hz, by omega, s1, s8, t1, t24, fun v r o' H2 ch hp2 po2 hr hg => ?_⟩
    have s3 : Same H1 H2 := fun b o e => ch b o (s2 b o e) (by simpa using ne_of_none e np)
    have hr2 := s3 _ _ hr1
    have lx := hp1.length
    refine ⟨rl, _, _, rfl, rfl, hr2, small1000 (by omega), ?_⟩
    have hr' : RowP g.K (fun l => l ≠ rl) H2 v r := hr.imp fun l nl => (ne_of_none (s2 _ _ hr1) nl).symm
    refine ⟨xs ++ [v], rs ++ [r], _, rfl, Same.own (sm1.trans s3) nrl, by rw [upd_ne ner]; exact s3 _ _ hE1, by rw [upd_ne nnr]; exact s3 _ _ hn1, upd_same, paired_app (paired_mono (fun _ _ z => (z.mono s3).upd hr2) hp1) (.cons (hr'.upd hr2) .nil), fun r' h' => ?_, by simp [li]⟩
    rcases List.mem_append.mp h' with z | z
    · exact ok r' z
    · rw [List.mem_singleton.mp z]; exact hg
  · rintro σ H1 ⟨xs, rs, u, rfl, sm1, hE1, hn1, hr1, hp1, ok, li⟩
    refine pure_lr_4 sm1 hE1 le (by omega) ⟨xs, hr1, paired_mono (fun _ _ z => z.row) hp1⟩ fun t cl ks H' s' nt ncl ht hcl asc rng => ?_
    exact q t rl cl rs ks zs H' (sm1.trans s') nt nrl ncl ht (RowsAt.mono s' ⟨xs, hr1, paired_mono (fun _ _ z => z.row) hp1⟩) hcl ⟨ok, zl, hz, by omega, by omega, asc, by rw [li]; exact rng⟩
end Sd
namespace Sd
open PySem PySem.Spec PyProof.Rows L2
theorem pure_law_rows {g : Ga} {vs : List V} {H : Hp} {Q : VK} {E : XK} {N : List Str} (hN : N.length = 11) (h : sp_law_rows g vs H Q E) : t_law_rows g (endsQ Q) (L2.start N vs) H := by
  obtain ⟨a, ns, mh, mw, ms, mt, rfl, ha, h1, h8, w1, w16, s1, s8, t1, t24, q⟩ := h
  have e0 : L2.start N [.ref a, .int mh, .int mw, .int ms, .int mt] = [some (.ref a), some (.int mh), some (.int mw), some (.int ms), some (.int mt), none, none, none, none, none, none] := by
    unfold L2.start; rw [hN]; rfl
  rw [e0]
  have big : (100 : Int) ≤ 26 ^ 12 := by decide
  refine ⟨_, rfl, a, ns, 0, rfl, ha, by decide, cellV ns 0, rfl, fun p o po np => ?_⟩
  refine ⟨_, rfl, _, rfl, p, o, mh, rfl, upd_same, po, by omega, by omega, fun d1 o1 f0 f1 po1 => ?_⟩
  obtain ⟨d1, rfl⟩ := Int.eq_ofNat_of_zero_le f0
  refine ⟨_, _, rfl, rfl, ?_⟩
  rw [upd_upd]
  show t_lr_1 g (endsQ Q) [some (.ref a), some (.int mh), some (.int mw), some (.int ms), some (.int mt), some (.ref p), some (.int ((1 : Int) + (d1 : Int))), none, none, none, none] (upd H p o1)
  rw [show (1 : Int) + (d1 : Int) = ((1 + d1 : Nat) : Int) by omega]
  have sm1 : Same H (upd H p o1) := Same.new np
  refine ⟨_, rfl, _, rfl, by omega, by omega, fun D hD => ?_⟩
  rw [Int.toNat_natCast]
  have pD : p ≠ D := ne_of_none upd_same hD
  have nD : H D = none := sm1.free hD
  refine lc_range (n := 1 + d1) (fun i H' => ∃ (es : List Int) (o' : HO), Same H H' ∧ H' p = some o' ∧ PoolO o' ∧ H' D = some (.lst (es.map V.int)) ∧ es.length = i) ⟨[], o1, Same.own sm1 nD, by rw [upd_ne pD]; exact upd_same, po1, upd_same, rfl⟩ ?_ ?_
  · rintro i H' hi ⟨es, o', sm', hp', po', hD', le⟩
    refine ⟨rfl, draw_c rfl hp' po' (by decide) (by decide) fun d2 o2 c2 po2 => ?_⟩
    refine ⟨_, by rw [upd_ne pD.symm]; exact hD', by rw [List.length_map]; exact small1000 (by omega), es ++ [(d2 : Int)], o2, Same.own (Same.own sm' np) nD, by rw [upd_ne pD]; exact upd_same, po2, by rw [upd_same, List.map_append]; rfl, by simp [le]⟩
  · rintro H2 ⟨es, o2, sm2, hp2, po2, hD2, le⟩
    show t_lr_2 g (endsQ Q) [some (.ref a), some (.int mh), some (.int mw), some (.int ms), some (.int mt), some (.ref p), some (.int ((1 + d1 : Nat) : Int)), some (.ref D), none, none, none] H2
    refine ⟨_, rfl, _, rfl, _, rfl, p, o2, mw, rfl, hp2, po2, by omega, by omega, fun d3 o3 f0 f1 po3 => ?_⟩
    obtain ⟨d3, rfl⟩ := Int.eq_ofNat_of_zero_le f0
    refine ⟨_, _, rfl, rfl, p, o3, 1 + d3, by show [V.ref p, V.int ((1 : Int) + (d3 : Int))] = _; rw [show (1 : Int) + (d3 : Int) = ((1 + d3 : Nat) : Int) by omega], upd_same, po3, by omega, fun n zs o4 H4 ch4 hp4 po4 nn hn4 zl hz nd => ?_⟩
    have sm4 : Same H H4 := fun b u e => ch4 b u (Same.own sm2 np b u e) (by simpa using ne_of_none e np)
    have hD4 : H4 D = some (.lst (es.map V.int)) := ch4 _ _ (by rw [upd_ne pD.symm]; exact hD2) (by simpa using pD.symm)
    exact pure_lr_3 ha sm4 hD4 le (by omega) (by omega) h8 hn4 (fun e => by rw [e, List.length_nil] at zl; omega) hz (by omega) w16 s1 s8 t1 t24 q
theorem e_yes {te : TE} {σ : L2.St} {H : Hp} {Q : VK} {R : Hp → Prop} (h : te σ H Q) : tYes σ H fun b H3 => if b = true then te σ H3 Q else R H3 := h
/-! ### _law_system -/
/-- Hand(start, list(steps)) -/
theorem make_handL {g : Ga} {σ : L2.St} {H : Hp} {Q : VK} {ts tl : TE} {l : Addr} {s0 : Int} {xs : List V} {L : List Step} (ht : ∀ Q : VK, Q (.int s0) H → ts σ H Q) (htl : ∀ (H' : Hp) (_ : Same H H') (Q : VK), Q (.ref l) H' → tl σ H' Q) (hl : H l = some (.lst xs)) (hs : 0 ≤ s0 ∧ s0 ≤ 99) (hL : StepsAt g.K H xs L) (ok : ∀ s ∈ L, okStep s) (fb : firstBad (L.map some) [] 0 = none)
    (l1 : 1 ≤ L.length) (l2 : L.length ≤ 24) (hz : (wordsOf L).length ≤ 8) (hr : (reachL L s0).length ≤ 8) (q : ∀ x H', Same H H' → H x = none → HandAt g H' x s0 L → Q (.ref x) H') :
    tMake g.cHand (sp_Hand_init g) [] E0 (tCons ts (tCons (tCB (rListS g.K) (tCons tl tNil)) tNil)) σ H Q := by
  refine ht _ (htl H (Same.refl H) _ ?_)
  refine ⟨l, xs, rfl, .inl (SqL.of hl), fun p hp => ?_⟩
  have s1 : Same H (upd H p (.lst xs)) := Same.new hp
  exact make_hand (σ := σ) (ts := tC (.int s0)) (tl := tC (.ref p)) (fun R r => r) hs ⟨p, rfl, .inl (SqL.of upd_same)⟩ (StepsAt.mono s1 hL) ok fb l1 l2 hz hr fun x H' s nx h => q x H' (s1.trans s) (s1.free nx) h
theorem GoodRow.words {zs : List Str} {ms : Nat} {r : Rw} (h : GoodRow zs ms r) : (wordsOf r.2).length ≤ zs.length := by
  obtain ⟨ss, dr, _⟩ := h.ex
  exact words_le dr.wd
theorem GoodRow.reach {zs : List Str} {ms : Nat} {r : Rw} (h : GoodRow zs ms r) : (reachL r.2 r.1).length ≤ ms := by
  obtain ⟨ss, dr, _, l, m⟩ := h.ex
  exact Nat.le_trans (reach_le m dr.to) l
theorem GoodRow.okS {zs : List Str} {ms : Nat} {r : Rw} (hz : ∀ z ∈ zs, IsName z) (h : GoodRow zs ms r) : ∀ s ∈ r.2, okStep s := by
  obtain ⟨ss, dr, hs, _⟩ := h.ex
  exact dr.ok hz hs
theorem GoodRow.fb {zs : List Str} {ms : Nat} {r : Rw} (h : GoodRow zs ms r) : firstBad (r.2.map some) [] 0 = none := by
  obtain ⟨ss, dr, _⟩ := h.ex
  exact dr.fb
theorem GoodRow.st {zs : List Str} {ms : Nat} {r : Rw} (h : GoodRow zs ms r) : 0 ≤ r.1 ∧ r.1 ≤ 99 := by
  obtain ⟨ss, dr, hs, _, m⟩ := h.ex
  exact hs _ m
theorem uniq_le {l : List Str} {zs : List Str} (h : ∀ z ∈ l, z ∈ zs) : (uniq l).length ≤ zs.length := by
  refine nodup_leG _ _ ?_ fun x hx => h x (mem_uniq.mp hx)
  exact List.Pairwise.imp (fun {a b} k e => by rw [e] at k; exact absurd k (ltT_irr b)) (asc_uniq _)
theorem sysWords_le {zs : List Str} {ms : Nat} {rs : List Rw} (h : ∀ r ∈ rs, GoodRow zs ms r) : (sysWords rs).length ≤ zs.length := by
  refine uniq_le fun z hz => ?_
  obtain ⟨r, hr, hz⟩ := List.mem_flatMap.mp hz
  obtain ⟨ss, dr, _⟩ := (h r hr).ex
  obtain ⟨s, hs, rfl⟩ := List.mem_map.mp (mem_uniq.mp hz)
  exact dr.wd s hs
/-- rows of which a system can be made -/
structure SysRows (rs : List Rw) (ks : List Int) : Prop where
  n1 : 1 ≤ rs.length
  n4 : rs.length ≤ 4
  st : ∀ r ∈ rs, 0 ≤ r.1 ∧ r.1 ≤ 99
  ok : ∀ r ∈ rs, ∀ s ∈ r.2, okStep s
  fb : ∀ r ∈ rs, firstBad (r.2.map some) [] 0 = none
  l1 : ∀ r ∈ rs, 1 ≤ r.2.length
  l2 : ∀ r ∈ rs, r.2.length ≤ 24
  w8 : ∀ r ∈ rs, (wordsOf r.2).length ≤ 8
  r8 : ∀ r ∈ rs, (reachL r.2 r.1).length ≤ 8
  w12 : (sysWords rs).length ≤ 12
  asc : AscI ks
  rng : ∀ k ∈ ks, 0 ≤ k ∧ k < (rs.length : Int)
theorem DrawnRows.sys {zs : List Str} {mh mw ms : Nat} {rs : List Rw} {ks : List Int} (h : DrawnRows zs mh mw ms rs ks) (h4 : mh ≤ 4) (w8 : mw ≤ 8) (m8 : ms ≤ 8) : SysRows rs ks := by
  have n2 := h.n2
  have zl := h.zl
  have sw := sysWords_le h.ok
  exact ⟨h.n1, by omega, fun r m => (h.ok r m).st, fun r m => (h.ok r m).okS h.zn, fun r m => (h.ok r m).fb, fun r m => (h.ok r m).l1, fun r m => (h.ok r m).l2, fun r m => Nat.le_trans (h.ok r m).words (by omega), fun r m => Nat.le_trans (h.ok r m).reach (by omega), by omega, h.asc, h.rng⟩
def sp_law_system (g : Ga) : Sp := fun vs H Q _ => ∃ (rl cl : Addr) (rs : List Rw) (ks : List Int), vs = [.ref rl, .ref cl] ∧ RowsAt g H rl rs ∧ H cl = some (.lst (ks.map V.int)) ∧ SysRows rs ks ∧ ∀ x H', Same H H' → H x = none → SysAt g H' x rs ks → Q (.ref x) H'
def t_law_system (g : Ga) : TS := (tRet (tMake g.cSystem (sp_System_init g) [] E0 (tCons (tLc (iList g.K (tVar 0)) (gName 2) tYes (tMake g.cHand (sp_Hand_init g) [] E0 (tCons (tOp (rIxT g.K) (tVar 2) (tC (.int 0))) (tCons (tCB (rListS g.K) (tCons (tOp (rIxT g.K) (tVar 2) (tC (.int 1))) tNil)) tNil))) [2]) (tCons (tCB (rListS g.K) (tCons (tVar 1) tNil)) tNil))))
theorem pure_law_system {g : Ga} {vs : List V} {H : Hp} {Q : VK} {E : XK} {N : List Str} (hN : N.length = 3) (h : sp_law_system g vs H Q E) : t_law_system g (endsQ Q) (L2.start N vs) H := by
  obtain ⟨rl, cl, rs, ks, rfl, hr, hc, dr, q⟩ := h
  have e0 : L2.start N [.ref rl, .ref cl] = [some (.ref rl), some (.ref cl), none] := by unfold L2.start; rw [hN]; rfl
  rw [e0]
  obtain ⟨xs, hx, hp⟩ := hr.ex
  have lx := hp.length
  have n1 := dr.n1
  have n2 := dr.n4
  refine ⟨_, rfl, rl, rfl, ⟨_, SqL.of hx⟩, fun D hD => ?_⟩
  have nrD : rl ≠ D := ne_of_none hx hD
  refine lc_list (K := g.K) (a := rl) (xs := xs) (fun i H' => Same H H' ∧ ∃ ys, H' D = some (.lst ys) ∧ Paired (HandR g H') ys (rs.take i)) ⟨Same.new hD, [], upd_same, .nil⟩ (fun i H' _ z => SqL.of (z.1 _ _ hx)) ?_ ?_
  · rintro i v H' hv ⟨sm, ys, hy, hh⟩
    obtain ⟨r, hr, row⟩ := paired_get hp hv
    obtain ⟨a, l, zs', rfl, h1, h2, h3⟩ := (row.mono sm).ex
    have rm := List.mem_of_getElem? hr
    have lw := dr.w8 r rm
    have lr := dr.r8 r rm
    refine ⟨rfl, ?_⟩
    refine e_yes (make_handL (s0 := r.1) (xs := zs') (L := r.2) (fun Q q => ⟨_, rfl, a, _, _, .int r.1, rfl, rfl, SqT.of h1, rfl, q⟩) (fun H2 s2 Q q => ⟨_, rfl, a, _, _, .ref l, rfl, rfl, SqT.of (s2 _ _ h1), rfl, q⟩) h2 (dr.st r rm) h3 (dr.ok r rm) (dr.fb r rm) (dr.l1 r rm) (dr.l2 r rm) (by omega) (by omega) fun x H2 s2 nx hx2 => ?_)
    have hy2 := s2 _ _ hy
    have ly := hh.length
    rw [List.length_take] at ly
    refine ⟨ys, hy2, small1000 (by omega), Same.own (sm.trans s2) hD, ys ++ [.ref x], upd_same, ?_⟩
    rw [List.take_add_one, hr, Option.toList_some]
    exact paired_app (paired_mono (fun _ _ ⟨a, e, z⟩ => ⟨a, e, HandAt.upd hy2 (HandAt.mono s2 z)⟩) hh) (.cons ⟨x, rfl, HandAt.upd hy2 hx2⟩ .nil)
  · rintro H' ⟨sm, ys, hy, hh⟩
    rw [lx, List.take_length] at hh
    refine ⟨_, rfl, cl, _, rfl, .inl (SqL.of (sm _ _ hc)), fun k hk => ?_⟩
    intro x dx nx ndx ne
    have s2 : Same H' (upd H' k (.lst (ks.map V.int))) := Same.new hk
    have s3 : Same H' (upd (upd (upd H' k (.lst (ks.map V.int))) dx (.own x)) x (.ins g.cSystem dx [])) := s2.trans (Same.own (Same.new ndx) nx)
    have sw := dr.w12
    refine ⟨x, dx, .ref D, .ref k, ys, rs, ks, rfl, upd_same, ⟨D, rfl, .inl (SqL.of (s3 _ _ hy))⟩, paired_mono (fun _ _ z => z.mono s3) hh, n1, by omega, dr.w8, .inr ⟨ks, ⟨k, rfl, .inl (SqL.of ((Same.own (Same.new ndx) nx : Same (upd H' k (.lst (ks.map V.int))) _) _ _ upd_same))⟩, ?_, ascI_nodup dr.asc, dr.rng, dr.asc, fun _ => Iff.rfl⟩, fun z => absurd z (by omega), fun _ H4 ch hs => ⟨rfl, ?_⟩⟩
    · have := nodup_leG ks ((List.range rs.length).map fun k : Nat => (k : Int)) (ascI_nodup dr.asc) fun k hk => by
        have h := dr.rng k hk
        exact List.mem_map.mpr ⟨k.toNat, List.mem_range.mpr (by omega), by omega⟩
      rw [List.length_map, List.length_range] at this
      omega
    · have nxH : H' x = none := by
        cases e : H' x with
        | none => rfl
        | some o => rw [s2 _ _ e] at nx; cases nx
      refine q x H4 (fun b o e => ch b o (s3 b o (sm b o e)) (by simpa using ne_of_none (sm b o e) nxH)) (sm.free nxH) hs
end Sd
namespace Sd
open PySem PySem.Spec PyProof.Rows L2
/-! ### enumerate in one shape -/
theorem lp_enumT {K : PySem.W.Frag} {a : Addr} {xs : List V} {H0 : Hp} {Fin : Hp → Prop} {B : V → Hp → (Hp → Prop) → Prop} (Pv : Nat → Hp → Prop) (h0 : Pv 0 H0) (hl : ∀ i H, i ≤ xs.length → Pv i H → SqT K H a xs) (hs : ∀ i x T H, xs[i]? = some x → Pv i H → H T = none → B (.ref T) (upd H T (.tup [.int (i : Nat), x])) (Pv (i + 1))) (hd : ∀ H, Pv xs.length H → Fin H) :
    ∃ W : Nat → Nat → Hp → Prop, (∃ m, W 0 m H0) ∧ ∀ j k H, W j k H → ((IteT K a).stop j H ∧ Fin H) ∨ ((IteT K a).go j H ∧ ∃ Nx : Hp → Prop, (∀ H', Nx H' → ∃ k', k' < k ∧ W (j + 1) k' H') ∧ ∀ x H', (IteT K a).yld j H x H' → B x H' Nx) := by
  refine ⟨fun i m H => m = xs.length - i ∧ i ≤ xs.length ∧ Pv i H, ⟨xs.length, by simp, Nat.zero_le _, h0⟩, ?_⟩
  rintro i m H ⟨rfl, hi, p⟩
  have q := hl i H hi p
  by_cases hlt : i < xs.length
  · refine .inr ⟨⟨xs, xs[i], q, by simp [hlt]⟩, Pv (i + 1), fun H' p' => ⟨xs.length - (i + 1), by omega, rfl, hlt, p'⟩, ?_⟩
    rintro v H' ⟨T, x, rfl, nT, rfl, y⟩
    exact hs i x T _ (y xs q) p nT
  · have e : i = xs.length := by omega
    subst e
    exact .inl ⟨⟨xs, q, Nat.le_refl _⟩, hd H p⟩
theorem inV_str (v : Str) : ∀ L : List Str, inV (.str v) (L.map V.str) = decide (v ∈ L)
  | [] => by simp [inV]
  | a :: L => by
    have ih := inV_str v L
    have e : eqV (.str a) (.str v) = decide (a = v) := by
      unfold eqV
      by_cases h : a = v
      · subst h; simp
      · simp [h]
    unfold inV at ih ⊢
    rw [List.map_cons, List.any_cons, e, ih]
    by_cases h : a = v
    · subst h; simp
    · have h2 : ¬ v = a := fun z => h z.symm
      simp [h, h2]
theorem str_flat (L : List Str) : (L.map V.str).all flatV = true := by
  rw [List.all_map, List.all_eq_true]; intro x _; rfl
/-! ### the numbers of steps -/
def optV : Option Int → V
  | none => .non
  | some i => .int i
def hit (st : Int) (w : Str) (s : Step) : Bool := decide (s.1 = st) && decide (s.2.1 = w)
/-- the places of the steps that fit -/
def hits (st : Int) (w : Str) (L : List Step) : List Nat := (List.range L.length).filter fun k => (L[k]?.map (hit st w)).getD false
def numbersOf (L : List Step) (st : Int) (w : Str) : List (Option Int) := if w ∈ L.map (·.2.1) then (hits st w L).map fun k : Nat => some (k : Int) else [none]
theorem hits_snoc {st : Int} {w : Str} {L : List Step} {i : Nat} {s : Step} (h : L[i]? = some s) : ((List.range (i + 1)).filter fun k => (L[k]?.map (hit st w)).getD false) = ((List.range i).filter fun k => (L[k]?.map (hit st w)).getD false) ++ if hit st w s = true then [i] else [] := by
  rw [List.range_succ, List.filter_append, List.filter_cons, List.filter_nil, h]
  simp only [Option.map_some, Option.getD_some]
def sp_step_numbers (g : Ga) : Sp := fun vs H Q _ => ∃ (a : Addr) (st : Int) (w : Str) (s0 : Int) (L : List Step), vs = [.ref a, .int st, .str w] ∧ HandAt g H a s0 L ∧ L.length ≤ 1000 ∧ ∀ D H', Same H H' → H D = none → H' D = some (.lst ((numbersOf L st w).map optV)) → Q (.ref D) H'
def t_step_numbers (g : Ga) : TS := (tSeq (tIfS (tTest (tOp (rIn g.K true) (tVar 2) (tFld g.K (tVar 0) "words"))) (tRet (tLst (tCons (tC .non) tNil))) tNext) (tRet (tLc (iEnumT g.K (tCons (tFld g.K (tVar 0) "steps") tNil)) (gTup g.K 2 (gCons (gName 3) (gCons (gName 4) gNil))) (tAnd (tTest (tOp rEq (tOp (rIxT g.K) (tVar 4) (tC (.int 0))) (tVar 1))) (tTest (tOp rEq (tOp (rIxT g.K) (tVar 4) (tC (.int 1))) (tVar 2)))) (tVar 3) [3, 4])))
theorem pure_step_numbers {g : Ga} {vs : List V} {H : Hp} {Q : VK} {E : XK} {N : List Str} (T : HandC g) (hN : N.length = 5) (h : sp_step_numbers g vs H Q E) : t_step_numbers g (endsQ Q) (L2.start N vs) H := by
  obtain ⟨a, st, w, s0, L, rfl, ha, few, q⟩ := h
  have e0 : L2.start N [.ref a, .int st, .str w] = [some (.ref a), some (.int st), some (.str w), none, none] := by unfold L2.start; rw [hN]; rfl
  rw [e0]
  obtain ⟨dx, p, wq, r, xs, g1, g2, g3, g4, g5⟩ := ha.ex
  have lx := g3.length
  refine ⟨_, rfl, _, rfl, a, _, dx, _, _, rfl, g1, T.cl, T.n3, fld_words, wq, _, rfl, .inr g4, rfl, str_flat _, _, rfl, ?_⟩
  rw [if_pos rfl, inV_str]
  have mw : w ∈ wordsOf L ↔ w ∈ L.map (·.2.1) := mem_uniq
  by_cases c : w ∈ wordsOf L
  · rw [decide_eq_true c]
    have en : numbersOf L st w = (hits st w L).map fun k : Nat => some (k : Int) := by unfold numbersOf; rw [if_pos (mw.mp c)]
    refine iteF ⟨_, rfl, a, _, dx, _, _, rfl, g1, T.cl, T.n2, fld_steps, p, xs, rfl, g2, fun D hD => ?_⟩
    refine lp_enumT (K := g.K) (a := p) (xs := xs) (fun i H' => Same H H' ∧ H' D = some (.lst ((((List.range i).filter fun k => (L[k]?.map (hit st w)).getD false).map fun k : Nat => some (k : Int)).map optV))) ⟨Same.new hD, upd_same⟩ (fun i H' _ z => Same.tup z.1 g2) ?_ ?_
    · rintro i x Ta H' hx ⟨sm, hD'⟩ nT
      obtain ⟨s, hs, b, rfl, sb⟩ := paired_get g3 hx
      have s2 : Same H' (upd H' Ta (.tup [.int (i : Nat), .ref b])) := Same.new nT
      have sb2 := Same.tup s2 (Same.tup sm sb)
      have hD2 := s2 _ _ hD'
      have ll : ((List.range i).filter fun k => (L[k]?.map (hit st w)).getD false).length ≤ i := by
        have := List.length_filter_le (fun k => (L[k]?.map (hit st w)).getD false) (List.range i)
        rwa [List.length_range] at this
      have il : i < xs.length := (List.getElem?_eq_some_iff.mp hx).1
      refine ⟨Ta, _, rfl, SqT.of upd_same, rfl, _, _, rfl, _, _, rfl, rfl, rfl, ?_⟩
      refine ⟨_, rfl, b, _, _, .int s.1, rfl, rfl, sb2, rfl, _, rfl, rfl, _, rfl, ?_⟩
      have no : hit st w s = false → (Same H (upd H' Ta (.tup [.int (i : Nat), .ref b])) ∧ (upd H' Ta (.tup [.int (i : Nat), .ref b])) D = some (.lst ((((List.range (i + 1)).filter fun k => (L[k]?.map (hit st w)).getD false).map fun k : Nat => some (k : Int)).map optV))) := fun h => by
        refine ⟨sm.trans s2, ?_⟩
        rw [hits_snoc hs, if_neg (by rw [h]; decide), List.append_nil]
        exact hD2
      by_cases c1 : s.1 = st
      · rw [decide_eq_true (show V.int s.1 = V.int st by rw [c1])]
        refine iteT ⟨_, rfl, b, _, _, .str s.2.1, rfl, rfl, sb2, rfl, _, rfl, rfl, _, rfl, ?_⟩
        by_cases c2 : s.2.1 = w
        · rw [decide_eq_true (show V.str s.2.1 = V.str w by rw [c2])]
          refine iteT ⟨_, rfl, _, hD2, ?_, Same.own (sm.trans s2) hD, ?_⟩
          · rw [List.length_map, List.length_map]; exact small1000 (by omega)
          · have hh : hit st w s = true := by unfold hit; rw [decide_eq_true c1, decide_eq_true c2]; rfl
            rw [upd_same, hits_snoc hs, if_pos hh, List.map_append, List.map_append]; rfl
        · rw [decide_eq_false (show ¬ V.str s.2.1 = V.str w from fun z => c2 (by injection z))]
          exact iteF (no (by unfold hit; rw [decide_eq_false c2, Bool.and_false]))
      · rw [decide_eq_false (show ¬ V.int s.1 = V.int st from fun z => c1 (by injection z))]
        exact iteF (iteF (no (by unfold hit; rw [decide_eq_false c1, Bool.false_and])))
    · rintro H' ⟨sm, hD'⟩
      refine q D H' sm hD ?_
      rw [en, hD', lx]; rfl
  · rw [decide_eq_false c]
    have en : numbersOf L st w = [none] := by unfold numbersOf; rw [if_neg fun z => c (mw.mpr z)]
    refine iteT ⟨by show 1 ≤ sizeLine; decide, fun D hD => ?_⟩
    exact q D _ (Same.new hD) hD (by rw [en]; exact upd_same)
end Sd
namespace Sd
open PySem PySem.Spec PyProof.Rows L2
/-! ### lines and moves -/
def stepL (ls : List (List (Option Int))) (ns : List (Option Int)) : List (List (Option Int)) := ls.flatMap fun l => ns.map fun n => l ++ [n]
def linesOf (nums : List (List (Option Int))) : List (List (Option Int)) := nums.foldl stepL [[]]
abbrev Move := Str × List (Option Int)
def numsAt (rs : List Rw) (sts : List Int) (w : Str) : List (List (Option Int)) := List.zipWith (fun r st => numbersOf r.2 st w) rs sts
def movesW (rs : List Rw) (sts : List Int) (w : Str) : List Move := (linesOf (numsAt rs sts w)).map fun l => (w, l)
def movesOf (rs : List Rw) (sts : List Int) : List Move := (sysWords rs).flatMap (movesW rs sts)
def LineAt (K : PySem.W.Frag) (H : Hp) (v : V) (l : List (Option Int)) : Prop := ∃ b, v = .ref b ∧ SqT K H b (l.map optV)
theorem LineAt.mono {K : PySem.W.Frag} {H H' : Hp} {v : V} {l : List (Option Int)} (s : Same H H') (h : LineAt K H v l) : LineAt K H' v l := let ⟨b, e, z⟩ := h; ⟨b, e, Same.tup s z⟩
def MoveAt (K : PySem.W.Frag) (H : Hp) (v : V) (m : Move) : Prop := ∃ a b, v = .ref a ∧ SqT K H a [.str m.1, .ref b] ∧ SqT K H b (m.2.map optV)
theorem MoveAt.mono {K : PySem.W.Frag} {H H' : Hp} {v : V} {l : Move} (s : Same H H') (h : MoveAt K H v l) : MoveAt K H' v l := let ⟨a, b, e, z, y⟩ := h; ⟨a, b, e, Same.tup s z, Same.tup s y⟩
theorem LineAt.upd {K : PySem.W.Frag} {H : Hp} {p : Addr} {ys : List V} {u : HO} {v : V} {l : List (Option Int)} (hp : H p = some (.lst ys)) (h : LineAt K H v l) : LineAt K (upd H p u) v l := let ⟨b, e, z⟩ := h; ⟨b, e, sqT_upd hp lst_nt.1 lst_nt.2 z⟩
theorem MoveAt.upd {K : PySem.W.Frag} {H : Hp} {p : Addr} {ys : List V} {u : HO} {v : V} {l : Move} (hp : H p = some (.lst ys)) (h : MoveAt K H v l) : MoveAt K (upd H p u) v l := let ⟨a, b, e, z, y⟩ := h; ⟨a, b, e, sqT_upd hp lst_nt.1 lst_nt.2 z, sqT_upd hp lst_nt.1 lst_nt.2 y⟩
theorem stepL_len {ls : List (List (Option Int))} {ns : List (Option Int)} (h : ns.length ≤ 4) : (stepL ls ns).length ≤ 4 * ls.length := by
  unfold stepL
  induction ls with
  | nil => simp
  | cons l ls ih =>
    rw [List.flatMap_cons, List.length_append, List.length_map, List.length_cons]
    omega
theorem linesOf_snoc (ns : List (List (Option Int))) (n : List (Option Int)) : linesOf (ns ++ [n]) = stepL (linesOf ns) n := by
  unfold linesOf; rw [List.foldl_append]; rfl
theorem linesOf_len : ∀ {nums : List (List (Option Int))} (k : Nat), nums.length = k → (∀ n ∈ nums, n.length ≤ 4) → (linesOf nums).length ≤ 4 ^ k := by
  intro nums k
  induction k generalizing nums with
  | zero => intro h _; rw [List.length_eq_zero_iff.mp h]; decide
  | succ k ih =>
    intro h h4
    have ne : nums ≠ [] := fun e => by rw [e] at h; simp at h
    rw [← List.dropLast_concat_getLast ne, linesOf_snoc]
    have l1 := ih (nums := nums.dropLast) (by rw [List.length_dropLast]; omega) fun n hn => h4 n (List.dropLast_subset _ hn)
    have l2 := stepL_len (ls := linesOf nums.dropLast) (h4 _ (List.getLast_mem ne))
    rw [Nat.pow_succ]; omega
theorem pow4 {k : Nat} (h : k ≤ 4) : 4 ^ k ≤ 256 := by
  have : k = 0 ∨ k = 1 ∨ k = 2 ∨ k = 3 ∨ k = 4 := by omega
  rcases this with e | e | e | e | e <;> subst e <;> decide
theorem big_line {n : Nat} (h : n ≤ 10000) : n < sizeLine := Nat.lt_of_le_of_lt h (by decide)
/-- row + (number,) -/
theorem cat_one {g : Ga} {σ : L2.St} {H : Hp} {Q : VK} {i j : Nat} {v : V} {l : List (Option Int)} {n : Option Int} (h1 : σ[i]? = some (some v)) (h2 : σ[j]? = some (some (optV n))) (hl : LineAt g.K H v l) (few : l.length ≤ 100) (q : ∀ u H', Same H H' → LineAt g.K H' u (l ++ [n]) → Q u H') :
    tOp (rCatA g.K) (tVar i) (tTup (tCons (tVar j) tNil)) σ H Q := by
  obtain ⟨b, rfl, hb⟩ := hl
  refine ⟨_, h1, _, h2, by show 1 ≤ sizeLine; decide, fun p hp => ?_⟩
  have s1 : Same H (upd H p (.tup [optV n])) := Same.new hp
  refine ⟨b, p, l.map optV, [optV n], rfl, rfl, Same.tup s1 hb, SqT.of upd_same, ?_, fun e => ?_, fun _ e => (by cases e), fun ne _ t ht => ?_⟩
  · have : (101 : Nat) ≤ sizeLine := by decide
    rw [List.length_map]; show l.length + 1 ≤ sizeLine; omega
  · have e' : l = [] := List.map_eq_nil_iff.mp e
    subst e'
    exact q (.ref p) _ s1 ⟨p, rfl, SqT.of upd_same⟩
  · have s2 := s1.trans (Same.new ht : Same _ (upd (upd H p (.tup [optV n])) t (.tup (l.map optV ++ [optV n]))))
    exact q (.ref t) _ s2 ⟨t, rfl, SqT.of (by rw [upd_same, List.map_append]; rfl)⟩
/-- [row + (number,) for row in rows for number in numbers] -/
theorem lc2_lines {g : Ga} {H : Hp} {Q : VK} {a b c d e f h i : Option V} {rw_ nl : Addr} {ys : List V} {ls : List (List (Option Int))} {ns : List (Option Int)} (hr : H rw_ = some (.lst ys)) (hl : Paired (LineAt g.K H) ys ls) (hn : H nl = some (.lst (ns.map optV))) (n4 : ns.length ≤ 4) (l256 : ls.length ≤ 256) (len : ∀ l ∈ ls, l.length ≤ 100)
    (q : ∀ D H' zs, Same H H' → H D = none → H' D = some (.lst zs) → Paired (LineAt g.K H') zs (stepL ls ns) → Q (.ref D) H') :
    tLc2 (iList g.K (tVar 4)) (gName 8) tYes (iList g.K (tVar 7)) (gName 9) tYes (tOp (rCatA g.K) (tVar 8) (tTup (tCons (tVar 9) tNil))) [8, 9] [9] [a, b, c, d, some (.ref rw_), e, f, some (.ref nl), h, i] H Q := by
  have ly := hl.length
  refine ⟨_, rfl, rw_, rfl, ⟨_, SqL.of hr⟩, fun D hD => ?_⟩
  refine lp_list (K := g.K) (a := rw_) (xs := ys) (fun k H' => ∃ zs, Same H H' ∧ H' D = some (.lst zs) ∧ Paired (LineAt g.K H') zs (stepL (ls.take k) ns)) ⟨[], Same.new hD, upd_same, .nil⟩ (fun k H' _ ⟨_, z, _⟩ => SqL.of (z _ _ hr)) ?_ ?_
  · rintro k v H' hv ⟨zs, sm, hD', hz⟩
    obtain ⟨l, hl1, lv⟩ := paired_get hl hv
    have ll := len l (List.mem_of_getElem? hl1)
    have zl := hz.length
    have tk := stepL_len (ls := ls.take k) n4
    have tl : (ls.take k).length ≤ ls.length := by rw [List.length_take]; omega
    refine ⟨rfl, ⟨_, rfl, nl, rfl, ⟨_, SqL.of (sm _ _ hn)⟩, ?_⟩⟩
    refine lp_list (K := g.K) (a := nl) (xs := ns.map optV) (fun j H2 => ∃ zs2, Same H H2 ∧ H2 D = some (.lst zs2) ∧ Paired (LineAt g.K H2) zs2 (stepL (ls.take k) ns ++ (ns.take j).map fun n => l ++ [n])) ⟨zs, sm, hD', by rw [List.take_zero, List.map_nil, List.append_nil]; exact hz⟩ (fun j H2 _ ⟨_, z, _⟩ => SqL.of (z _ _ hn)) ?_ ?_
    · rintro j x H2 hx ⟨zs2, sm2, hD2, hz2⟩
      obtain ⟨n, hn1, rfl⟩ := map_get hx
      have zl2 := hz2.length
      rw [List.length_append, List.length_map, List.length_take] at zl2
      refine ⟨rfl, ?_⟩
      refine e_yes (cat_one (l := l) (n := n) rfl rfl (lv.mono sm2) ll fun u H3 s3 hu => ?_)
      have hD3 := s3 _ _ hD2
      refine ⟨zs2, hD3, big_line (by omega), zs2 ++ [u], Same.own (sm2.trans s3) hD, upd_same, ?_⟩
      rw [List.take_add_one, hn1, Option.toList_some, List.map_append, ← List.append_assoc]
      exact paired_app (paired_mono (fun _ _ z => (z.mono s3).upd hD3) hz2) (.cons (hu.upd hD3) .nil)
    · rintro H2 ⟨zs2, sm2, hD2, hz2⟩
      rw [List.length_map, List.take_length] at hz2
      refine ⟨zs2, sm2, hD2, ?_⟩
      have e : stepL (ls.take (k + 1)) ns = stepL (ls.take k) ns ++ ns.map fun n => l ++ [n] := by
        unfold stepL
        rw [List.take_add_one, hl1, Option.toList_some, List.flatMap_append]; simp
      rw [e]
      exact hz2
  · rintro H' ⟨zs, sm, hD', hz⟩
    rw [ly, List.take_length] at hz
    exact q D H' zs sm hD hD' hz
/-! ### check_standing -/
theorem sfld_hands {h d w s : Addr} : (sysF h d w s).lookup ("hands" : Str) = some (V.ref h) := by simp [sysF, List.lookup]
theorem sfld_diligent {h d w s : Addr} : (sysF h d w s).lookup ("diligent" : Str) = some (V.ref d) := by
  have h1 : (("diligent" : Str) == "hands") = false := by decide +kernel
  simp [sysF, List.lookup, h1]
theorem sfld_words {h d w s : Addr} : (sysF h d w s).lookup ("words" : Str) = some (V.ref w) := by
  have h1 : (("words" : Str) == "hands") = false := by decide +kernel
  have h2 : (("words" : Str) == "diligent") = false := by decide +kernel
  simp [sysF, List.lookup, h1, h2]
theorem sfld_start {h d w s : Addr} : (sysF h d w s).lookup ("start" : Str) = some (V.ref s) := by
  have h1 : (("start" : Str) == "hands") = false := by decide +kernel
  have h2 : (("start" : Str) == "diligent") = false := by decide +kernel
  have h3 : (("start" : Str) == "words") = false := by decide +kernel
  simp [sysF, List.lookup, h1, h2, h3]
def Stand (rs : List Rw) (its : List (Option Int)) : Prop := ∀ (i : Nat) (r : Rw), rs[i]? = some r → ∃ z, its[i]? = some (some z) ∧ z ∈ reachL r.2 r.1
def sp_check_standing (g : Ga) : Sp := fun vs H Q E => ∃ (x : Addr) (v : V) (rs : List Rw) (ds : List Int), vs = [.ref x, v] ∧ SysAt g H x rs ds ∧ rs.length ≤ 100 ∧
  ((NoTy g.K H v "tuple" ∧ RaisesX E g.cBadStates "value" v H) ∨ ∃ (a : Addr) (xs : List V), v = .ref a ∧ SqT g.K H a xs ∧ ((xs.length ≠ rs.length ∧ RaisesX E g.cBadStates "value" v H) ∨
    (xs.length = rs.length ∧ ∃ its : List (Option Int), Paired (ItemI g.K H) xs its ∧ (¬ Stand rs its → RaisesX E g.cBadStates "value" v H) ∧ (Stand rs its → ∀ H', Same H H' → Q .non H'))))
def t_check_standing (g : Ga) (E : XK) : TS := (tSeq (tIfS (tOr (tNot (tB (tCB (rIsi g.K) (tCons (tVar 1) (tCons (tC (.ty "tuple")) tNil))))) (tTest (tOp rNe (tCB (rLenS g.K) (tCons (tVar 1) tNil)) (tCB (rLenS g.K) (tCons (tFld g.K (tVar 0) "hands") tNil))))) (tRaiseX g.cBadStates "value" E (tCons (tVar 1) tNil)) tNext) (tFor (iEnumT g.K (tCons (tFld g.K (tVar 0) "hands") tNil)) (gTup g.K 2 (gCons (gName 2) (gCons (gName 3) gNil))) (tIfS (tOr (tNot (tB (tCall (sp_is_integer g) [] E0 (tCons (tOp (rIxT g.K) (tVar 1) (tVar 2)) tNil)))) (tTest (tOp (rIn g.K true) (tOp (rIxT g.K) (tVar 1) (tVar 2)) (tFld g.K (tVar 3) "states")))) (tRaiseX g.cBadStates "value" E (tCons (tVar 1) tNil)) tNext)))
theorem pure_check_standing {g : Ga} {vs : List V} {H : Hp} {Q : VK} {E : XK} {N : List Str} (TH : HandC g) (T : SysC g) (hN : N.length = 4) (h : sp_check_standing g vs H Q E) : t_check_standing g E (endsQ Q) (L2.start N vs) H := by
  obtain ⟨x, v, rs, ds, rfl, hx, few, alt0⟩ := h
  have e0 : L2.start N [.ref x, v] = [some (.ref x), some v, none, none] := by unfold L2.start; rw [hN]; rfl
  rw [e0]
  obtain ⟨dx, hh, d, w, s, hs, g1, g2, g3, g4, g5, g6⟩ := hx.ex
  have lh := g3.length
  rcases alt0 with ⟨⟨t, ty, k⟩, ra⟩ | ⟨a, xs, rfl, ha, alt⟩
  · exact ⟨_, rfl, v, .ty "tuple", _, _, false, rfl, .ty _, ty, k, false, rfl, iteT (iteT (raiseX (Same.refl H) ra fun Q q => ⟨_, rfl, q⟩))⟩
  · refine ⟨_, rfl, _, .ty "tuple", _, _, true, rfl, .ty _, st_ty ha, kb (by decide +kernel), true, rfl, iteF ?_⟩
    refine ⟨_, rfl, a, _, rfl, .inr ha, _, rfl, x, _, dx, _, _, rfl, g1, T.cl, T.n1, sfld_hands, hh, _, rfl, .inr g2, rfl, _, rfl, ?_⟩
    rcases alt with ⟨ne, ra⟩ | ⟨eq, its, hi, hbad, hok⟩
    · rw [decide_eq_false (show ¬ V.int (xs.length : Int) = V.int (hs.length : Int) from fun z => ne (by injection z; omega))]
      exact iteT (raiseX (Same.refl H) ra fun Q q => ⟨_, rfl, q⟩)
    · rw [decide_eq_true (show V.int (xs.length : Int) = V.int (hs.length : Int) by rw [eq, lh])]
      refine iteF ⟨_, rfl, x, _, dx, _, _, rfl, g1, T.cl, T.n1, sfld_hands, hh, hs, rfl, g2, ?_⟩
      refine for_enumT (K := g.K) (a := hh) (xs := hs) (fun i σ H' => ∃ p q : Option V, σ = [some (.ref x), some (.ref a), p, q] ∧ Same H H' ∧ ∀ (j : Nat) (r : Rw), j < i → rs[j]? = some r → ∃ z, its[j]? = some (some z) ∧ z ∈ reachL r.2 r.1) ⟨none, none, rfl, Same.refl H, fun j r hj => by omega⟩ (fun i σ H' _ ⟨_, _, _, sm, _⟩ => Same.tup sm g2) ?_ ?_
      · rintro i y Ta σ H' hy ⟨p, q, rfl, sm, al⟩ nT
        obtain ⟨r, hr, b, rfl, hb⟩ := paired_get g3 hy
        have s2 : Same H (upd H' Ta (.tup [.int (i : Nat), .ref b])) := sm.trans (Same.new nT)
        obtain ⟨dy, p1, q1, r1, zs, k1, k2, k3, k4, k5⟩ := (HandAt.mono s2 hb).ex
        have il : i < xs.length := by
          have := (List.getElem?_eq_some_iff.mp hr).1
          omega
        obtain ⟨o, ho, iv⟩ := paired_get hi (List.getElem?_eq_getElem il)
        have ax : atI xs ((i : Nat) : Int) = some xs[i] := atI_nat (List.getElem?_eq_getElem il)
        have bad : ¬ (∃ z, o = some z ∧ z ∈ reachL r.2 r.1) → RaisesX E g.cBadStates "value" (.ref a) H := fun n => hbad fun st => n (by
          obtain ⟨z, hz, m⟩ := st i r hr
          rw [ho] at hz
          exact ⟨z, by injection hz, m⟩)
        refine ⟨Ta, _, rfl, SqT.of upd_same, rfl, _, _, rfl, _, _, rfl, rfl, ?_⟩
        refine ⟨_, rfl, _, rfl, a, _, _, _, rfl, rfl, Same.tup s2 ha, ax, ?_⟩
        cases o with
        | none =>
          exact ⟨_, false, rfl, .inr ⟨noInt_mono s2 iv, rfl⟩, false, rfl, iteT (iteT (raiseX s2 (bad (by rintro ⟨z, e, _⟩; cases e)) fun Q q => ⟨_, rfl, q⟩))⟩
        | some z =>
          have ez : xs[i] = .int z := iv
          rw [ez] at ax ⊢
          refine ⟨_, true, rfl, .inl ⟨z, rfl, rfl⟩, true, rfl, iteF ⟨_, rfl, _, rfl, a, _, _, _, rfl, rfl, Same.tup s2 ha, ax, _, rfl, b, _, dy, _, _, rfl, k1, TH.cl, TH.n4, fld_states, r1, _, rfl, .inr k5, rfl, int_flat _, _, rfl, ?_⟩⟩
          rw [if_pos rfl, inV_int]
          by_cases c : z ∈ reachL r.2 r.1
          · rw [decide_eq_true c]
            refine iteF ⟨_, _, rfl, s2, fun j r' hj hr' => ?_⟩
            by_cases e : j = i
            · subst e
              rw [hr] at hr'
              cases hr'
              exact ⟨z, ho, c⟩
            · exact al j r' (by omega) hr'
          · rw [decide_eq_false c]
            exact iteT (raiseX s2 (bad (by rintro ⟨z', e, m⟩; cases e; exact c m)) fun Q q => ⟨_, rfl, q⟩)
      · rintro σ H' ⟨p, q, rfl, sm, al⟩
        exact hok (fun i r hr => al i r (by have := (List.getElem?_eq_some_iff.mp hr).1; omega) hr) H' sm
end Sd
namespace Sd
open PySem PySem.Spec PyProof.Rows L2
theorem n_asg {te : TE} {G : TG} {D : Ends} {i : Nat} {v : V} {σ : L2.St} {H : Hp} (h : te (σ.set i (some v)) H fun x H1 => G x (σ.set i (some v)) H1 D.nx) : gName i v σ H (tAsg te G D) := h
/-! ### System.moves -/
structure SmallR (rs : List Rw) : Prop where
  n4 : rs.length ≤ 4
  w12 : (sysWords rs).length ≤ 12
  nu : ∀ r ∈ rs, ∀ st w, (numbersOf r.2 st w).length ≤ 4
  ll : ∀ r ∈ rs, r.2.length ≤ 1000
structure MovesAt (g : Ga) (H : Hp) (D : Addr) (ms : List Move) : Prop where
  ex : ∃ xs : List V, H D = some (.lst xs) ∧ Paired (MoveAt g.K H) xs ms
theorem MovesAt.mono {g : Ga} {H H' : Hp} {D : Addr} {ms : List Move} (s : Same H H') (h : MovesAt g H D ms) : MovesAt g H' D ms := let ⟨xs, a, b⟩ := h; ⟨xs, s _ _ a, paired_mono (fun _ _ z => z.mono s) b⟩
theorem nums_at {rs : List Rw} {sts : List Int} {w : Str} {i : Nat} {r : Rw} {st : Int} (hr : rs[i]? = some r) (hs : sts[i]? = some st) : (numsAt rs sts w)[i]? = some (numbersOf r.2 st w) := by
  unfold numsAt
  rw [List.getElem?_zipWith, hr, hs]
theorem nums_len {rs : List Rw} {sts : List Int} {w : Str} (h : sts.length = rs.length) : (numsAt rs sts w).length = rs.length := by
  unfold numsAt
  rw [List.length_zipWith, h, Nat.min_self]
theorem nums_4 {rs : List Rw} {sts : List Int} {w : Str} (h : ∀ r ∈ rs, ∀ st w, (numbersOf r.2 st w).length ≤ 4) : ∀ n ∈ numsAt rs sts w, n.length ≤ 4 := by
  unfold numsAt
  induction rs generalizing sts with
  | nil => intro n hn; simp at hn
  | cons r rs ih =>
    cases sts with
    | nil => intro n hn; simp at hn
    | cons st sts =>
      intro n hn
      rw [List.zipWith_cons_cons] at hn
      rcases List.mem_cons.mp hn with e | e
      · rw [e]; exact h r List.mem_cons_self st w
      · exact ih (fun r hr => h r (List.mem_cons_of_mem _ hr)) n e
theorem lines_4 {rs : List Rw} {sts : List Int} {w : Str} (i : Nat) (n4 : rs.length ≤ 4) (h : ∀ r ∈ rs, ∀ st w, (numbersOf r.2 st w).length ≤ 4) : (linesOf ((numsAt rs sts w).take i)).length ≤ 256 := by
  have l : (numsAt rs sts w).length ≤ rs.length := by unfold numsAt; rw [List.length_zipWith]; omega
  have := linesOf_len (nums := (numsAt rs sts w).take i) _ rfl fun n hn => nums_4 h n (List.mem_of_mem_take hn)
  refine Nat.le_trans this (pow4 ?_)
  rw [List.length_take]; omega
theorem stepL_lens {ls : List (List (Option Int))} {ns : List (Option Int)} {k : Nat} (h : ∀ l ∈ ls, l.length = k) : ∀ l ∈ stepL ls ns, l.length = k + 1 := fun l hl => by
  unfold stepL at hl
  obtain ⟨l', h', hl⟩ := List.mem_flatMap.mp hl
  obtain ⟨n, _, rfl⟩ := List.mem_map.mp hl
  rw [List.length_append, h l' h']; rfl
theorem linesOf_lens : ∀ {nums : List (List (Option Int))} (k : Nat), nums.length = k → ∀ l ∈ linesOf nums, l.length = k := by
  intro nums k
  induction k generalizing nums with
  | zero => intro h l hl; rw [List.length_eq_zero_iff.mp h] at hl; simp [linesOf] at hl; rw [hl]; rfl
  | succ k ih =>
    intro h
    have ne : nums ≠ [] := fun e => by rw [e] at h; simp at h
    rw [← List.dropLast_concat_getLast ne, linesOf_snoc]
    exact stepL_lens (ih (nums := nums.dropLast) (by rw [List.length_dropLast]; omega))
def sp_System_moves (g : Ga) : Sp := fun vs H Q E => ∃ (x : Addr) (v : V) (rs : List Rw) (ds : List Int), vs = [.ref x, v] ∧ SysAt g H x rs ds ∧ SmallR rs ∧
  ((NoTy g.K H v "tuple" ∧ RaisesX E g.cBadStates "value" v H) ∨ ∃ (a : Addr) (xs : List V), v = .ref a ∧ SqT g.K H a xs ∧ ((xs.length ≠ rs.length ∧ RaisesX E g.cBadStates "value" v H) ∨
    (xs.length = rs.length ∧ ∃ its : List (Option Int), Paired (ItemI g.K H) xs its ∧ (¬ Stand rs its → RaisesX E g.cBadStates "value" v H) ∧ ∀ sts : List Int, Stand rs its → its = sts.map some → ∀ D H', Same H H' → H D = none → MovesAt g H' D (movesOf rs sts) → Q (.ref D) H')))
theorem stand_ints : ∀ {rs : List Rw} {its : List (Option Int)}, its.length = rs.length → Stand rs its → ∃ sts : List Int, its = sts.map some
  | [], [], _, _ => ⟨[], rfl⟩
  | [], _ :: _, h, _ => by simp at h
  | _ :: _, [], h, _ => by simp at h
  | r :: rs, o :: its, h, st => by
    obtain ⟨z, hz, _⟩ := st 0 r rfl
    have ez : o = some z := by simpa using hz
    obtain ⟨sts, e⟩ := stand_ints (rs := rs) (its := its) (by simpa using h) fun i r hr => st (i + 1) r hr
    exact ⟨z :: sts, by rw [ez, e]; rfl⟩
theorem ints_of {K : PySem.W.Frag} {H : Hp} : ∀ {xs : List V} {sts : List Int}, Paired (ItemI K H) xs (sts.map some) → xs = sts.map V.int
  | _, [], h => by cases h; rfl
  | _, z :: sts, h => by
    cases h with
    | cons a b => rw [ints_of b, show _ = V.int z from a]; rfl
def t_mv_3 (g : Ga) (E : XK) : TS := (tDrop (tBM g.K "list" rExt (tVar 2) (tCons (tLc (iList g.K (tVar 4)) (gName 8) tYes (tTup (tCons (tVar 3) (tCons (tVar 8) tNil))) [8]) tNil)))
def t_mv_2 (g : Ga) (E : XK) : TS := (tSeq (tFor (iEnumT g.K (tCons (tFld g.K (tVar 0) "hands") tNil)) (gTup g.K 2 (gCons (gName 5) (gCons (gName 6) gNil))) (tSeq (tAsg (tCall (sp_step_numbers g) [] E0 (tCons (tVar 6) (tCons (tOp (rIxT g.K) (tVar 1) (tVar 5)) (tCons (tVar 3) tNil)))) (gName 7)) (tAsg (tLc2 (iList g.K (tVar 4)) (gName 8) tYes (iList g.K (tVar 7)) (gName 9) tYes (tOp (rCatA g.K) (tVar 8) (tTup (tCons (tVar 9) tNil))) [8, 9] [9]) (gName 4)))) (t_mv_3 g E))
def t_mv_1 (g : Ga) (E : XK) : TS := (tSeq (tAsg (tLst tNil) (gName 2)) (tSeq (tFor (iTup g.K (tFld g.K (tVar 0) "words")) (gName 3) (tSeq (tAsg (tLst (tCons (tTup tNil) tNil)) (gName 4)) (t_mv_2 g E))) (tRet (tVar 2))))
def t_System_moves (g : Ga) (E : XK) : TS := (tSeq (tDrop (tCall (sp_check_standing g) [] E (tCons (tVar 0) (tCons (tVar 1) tNil)))) (t_mv_1 g E))
/-- found.extend([(word, row) for row in rows]) -/
theorem pure_mv_3 {g : Ga} {E : XK} {D : Ends} {H H0 : Hp} {a b c d e f h : Option V} {fo rw_ : Addr} {w : Str} {xs ys : List V} {ms : List Move} {ls : List (List (Option Int))} (nfo : H0 fo = none) (sm : Same H0 H) (hf : H fo = some (.lst xs)) (hm : Paired (MoveAt g.K H) xs ms) (m1 : ms.length ≤ 4000) (hr : H rw_ = some (.lst ys)) (hl : Paired (LineAt g.K H) ys ls) (l256 : ls.length ≤ 256)
    (q : ∀ H' xs', Same H0 H' → H' fo = some (.lst xs') → Paired (MoveAt g.K H') xs' (ms ++ ls.map fun l => (w, l)) → D.nx [a, b, some (.ref fo), some (.str w), some (.ref rw_), c, d, e, f, h] H') :
    t_mv_3 g E D [a, b, some (.ref fo), some (.str w), some (.ref rw_), c, d, e, f, h] H := by
  have ly := hl.length
  have lx := hm.length
  refine ⟨_, rfl, .inl ⟨rfl, _, SqL.of hf⟩, _, rfl, rw_, rfl, ⟨_, SqL.of hr⟩, fun Dl hD => ?_⟩
  refine lc_list (K := g.K) (a := rw_) (xs := ys) (fun k H' => ∃ zs, Same H H' ∧ H' Dl = some (.lst zs) ∧ Paired (MoveAt g.K H') zs ((ls.take k).map fun l => (w, l))) ⟨[], Same.new hD, upd_same, .nil⟩ (fun k H' _ ⟨_, z, _⟩ => SqL.of (z _ _ hr)) ?_ ?_
  · rintro k v H' hv ⟨zs, sm', hD', hz⟩
    obtain ⟨l, hl1, b1, rfl, lv⟩ := paired_get hl hv
    have zl := hz.length
    rw [List.length_map, List.length_take] at zl
    refine ⟨rfl, _, rfl, _, rfl, by show 2 ≤ sizeLine; decide, fun t ht => ?_⟩
    have s2 : Same H' (upd H' t (.tup [.str w, .ref b1])) := Same.new ht
    have hD2 := s2 _ _ hD'
    refine ⟨zs, hD2, big_line (by omega), zs ++ [.ref t], Same.own (sm'.trans s2) hD, upd_same, ?_⟩
    rw [List.take_add_one, hl1, Option.toList_some, List.map_append]
    refine paired_app (paired_mono (fun _ _ z => (z.mono s2).upd hD2) hz) (.cons (MoveAt.upd hD2 ⟨t, b1, rfl, SqT.of upd_same, Same.tup (sm'.trans s2) lv⟩) .nil)
  · rintro H' ⟨zs, sm', hD', hz⟩
    rw [ly, List.take_length] at hz
    have zl := hz.length
    rw [List.length_map] at zl
    have hf' := sm' _ _ hf
    refine ⟨fo, Dl, xs, zs, rfl, rfl, hf', hD', Nat.le_of_lt (big_line (by omega)), ?_⟩
    exact q _ (xs ++ zs) (Same.own (sm.trans sm') nfo) upd_same (paired_app (paired_mono (fun _ _ z => (z.mono sm').upd hf') hm) (paired_mono (fun _ _ z => z.upd hf') hz))
theorem pure_mv_2 {g : Ga} {E : XK} {D : Ends} {H H0 : Hp} {c d e f h : Option V} {x a fo rw_ : Addr} {w : Str} {xs ys : List V} {ms : List Move} {rs : List Rw} {ds sts : List Int} (TH : HandC g) (T : SysC g) (sm : SmallR rs) (sl : sts.length = rs.length) (nfo : H0 fo = none) (s0 : Same H0 H) (hx : SysAt g H0 x rs ds) (ha : SqT g.K H0 a (sts.map V.int)) (hf : H fo = some (.lst xs)) (hm : Paired (MoveAt g.K H) xs ms) (m1 : ms.length ≤ 4000) (hr : H rw_ = some (.lst ys)) (hl : Paired (LineAt g.K H) ys [[]])
    (q : ∀ H' xs' p1 p2 p3 p4 p5 p6, Same H0 H' → H' fo = some (.lst xs') → Paired (MoveAt g.K H') xs' (ms ++ movesW rs sts w) → D.nx [some (.ref x), some (.ref a), some (.ref fo), some (.str w), p1, p2, p3, p4, p5, p6] H') :
    t_mv_2 g E D [some (.ref x), some (.ref a), some (.ref fo), some (.str w), some (.ref rw_), c, d, e, f, h] H := by
  obtain ⟨dx, hh, d', w', s', hs, g1, g2, g3, g4, g5, g6⟩ := (SysAt.mono s0 hx).ex
  have lh := g3.length
  have n4 := sm.n4
  refine ⟨_, rfl, x, _, dx, _, _, rfl, g1, T.cl, T.n1, sfld_hands, hh, hs, rfl, g2, ?_⟩
  refine for_enumT (K := g.K) (a := hh) (xs := hs) (fun i σ H' => ∃ (p1 : Addr) (zs : List V) (p2 p3 p4 p5 p6 : Option V), σ = [some (.ref x), some (.ref a), some (.ref fo), some (.str w), some (.ref p1), p2, p3, p4, p5, p6] ∧ Same H H' ∧ H' p1 = some (.lst zs) ∧ Paired (LineAt g.K H') zs (linesOf ((numsAt rs sts w).take i))) ⟨rw_, ys, _, _, _, _, _, rfl, Same.refl H, hr, hl⟩ (fun i σ H' _ ⟨_, _, _, _, _, _, _, _, z, _⟩ => Same.tup z g2) ?_ ?_
  · rintro i y Ta σ H' hy ⟨p1, zs, p2, p3, p4, p5, p6, rfl, sm1, hp1, hz⟩ nT
    obtain ⟨r, hr1, b, rfl, hb⟩ := paired_get g3 hy
    have s2 : Same H' (upd H' Ta (.tup [.int (i : Nat), .ref b])) := Same.new nT
    have il : i < rs.length := (List.getElem?_eq_some_iff.mp hr1).1
    obtain ⟨st, hst⟩ : ∃ st, sts[i]? = some st := ⟨sts[i]'(by omega), List.getElem?_eq_getElem _⟩
    have ax : atI (sts.map V.int) ((i : Nat) : Int) = some (.int st) := atI_nat (by rw [List.getElem?_map, hst]; rfl)
    have rm := List.mem_of_getElem? hr1
    refine ⟨Ta, _, rfl, SqT.of upd_same, rfl, _, _, rfl, _, _, rfl, rfl, ?_⟩
    refine s_asg ?_
    refine ⟨_, rfl, _, rfl, _, rfl, a, _, _, _, rfl, rfl, Same.tup ((s0.trans sm1).trans s2) ha, ax, _, rfl, b, st, w, r.1, r.2, rfl, HandAt.mono (sm1.trans s2) hb, sm.ll r rm, fun nl H3 s3 nnl hnl => ?_⟩
    have s23 := s2.trans s3
    have tk := lines_4 (sts := sts) (w := w) i n4 sm.nu
    refine n_asg ?_
    refine lc2_lines (s23 _ _ hp1) (paired_mono (fun _ _ z => z.mono s23) hz) hnl (sm.nu r rm st w) tk (fun l hl => ?_) fun Dl H4 us s4 nD hD hu => ?_
    · rw [linesOf_lens _ rfl l hl, List.length_take]; omega
    · refine ⟨Dl, us, _, _, _, _, _, rfl, sm1.trans (s23.trans s4), hD, ?_⟩
      rw [List.take_add_one, nums_at hr1 hst, Option.toList_some, linesOf_snoc]
      exact hu
  · rintro σ H' ⟨p1, zs, p2, p3, p4, p5, p6, rfl, sm1, hp1, hz⟩
    have e : (numsAt rs sts w).take hs.length = numsAt rs sts w := List.take_of_length_le (by rw [nums_len sl]; omega)
    have tk := lines_4 (sts := sts) (w := w) hs.length n4 sm.nu
    rw [e] at hz tk
    exact pure_mv_3 (E := E) nfo (s0.trans sm1) (sm1 _ _ hf) (paired_mono (fun _ _ z => z.mono sm1) hm) m1 hp1 hz tk fun H2 xs' s2 hf2 hm2 => q H2 xs' _ _ _ _ _ _ s2 hf2 hm2
theorem movesW_len {rs : List Rw} {sts : List Int} (w : Str) (sm : SmallR rs) : (movesW rs sts w).length ≤ 256 := by
  unfold movesW
  rw [List.length_map]
  have := lines_4 (sts := sts) (w := w) (numsAt rs sts w).length sm.n4 sm.nu
  rwa [List.take_length] at this
theorem flat_len {rs : List Rw} {sts : List Int} (sm : SmallR rs) : ∀ ws : List Str, (ws.flatMap (movesW rs sts)).length ≤ 256 * ws.length
  | [] => by simp
  | w :: ws => by
    have h1 := flat_len (sts := sts) sm ws
    have h2 := movesW_len (sts := sts) w sm
    rw [List.flatMap_cons, List.length_append, List.length_cons]
    omega
theorem pure_System_moves {g : Ga} {vs : List V} {H : Hp} {Q : VK} {E : XK} {N : List Str} (TH : HandC g) (T : SysC g) (hN : N.length = 10) (h : sp_System_moves g vs H Q E) : t_System_moves g E (endsQ Q) (L2.start N vs) H := by
  obtain ⟨x, v, rs, ds, rfl, hx, sm, alt0⟩ := h
  have e0 : L2.start N [.ref x, v] = [some (.ref x), some v, none, none, none, none, none, none, none, none] := by unfold L2.start; rw [hN]; rfl
  rw [e0]
  have n4 := sm.n4
  have w12 := sm.w12
  refine ⟨_, rfl, _, rfl, x, v, rs, ds, rfl, hx, by omega, ?_⟩
  rcases alt0 with z | ⟨a, xs, rfl, ha, ⟨ne, ra⟩ | ⟨eq, its, hi, hbad, hok⟩⟩
  · exact .inl z
  · exact .inr ⟨a, xs, rfl, ha, .inl ⟨ne, ra⟩⟩
  refine .inr ⟨a, xs, rfl, ha, .inr ⟨eq, its, hi, hbad, fun st H1 s1 => ?_⟩⟩
  obtain ⟨sts, rfl⟩ := stand_ints (by rw [← hi.length]; exact eq) st
  have ex := ints_of hi
  subst ex
  rw [List.length_map] at eq
  refine ⟨by show 0 ≤ sizeLine; decide, fun fo hfo => ?_⟩
  have nfo : H fo = none := s1.free hfo
  have s2 : Same H (upd H1 fo (.lst [])) := s1.trans (Same.new hfo)
  obtain ⟨dx, hh, d', w', s', hs, g1, g2, g3, g4, g5, g6⟩ := hx.ex
  refine ⟨_, rfl, x, _, dx, _, _, rfl, s2 _ _ g1, T.cl, T.n3, sfld_words, w', rfl, ⟨_, Same.tup s2 g5⟩, ?_⟩
  refine for_tup (K := g.K) (a := w') (xs := (sysWords rs).map V.str) (fun i σ H' => ∃ (ys : List V) (p0 p1 p2 p3 p4 p5 p6 : Option V), σ = [some (.ref x), some (.ref a), some (.ref fo), p0, p1, p2, p3, p4, p5, p6] ∧ Same H H' ∧ H' fo = some (.lst ys) ∧ Paired (MoveAt g.K H') ys (((sysWords rs).take i).flatMap (movesW rs sts))) ⟨[], _, _, _, _, _, _, _, rfl, s2, upd_same, .nil⟩ (fun i σ H' _ ⟨_, _, _, _, _, _, _, _, _, z, _⟩ => Same.tup z g5) ?_ ?_
  · rintro i u σ H' hu ⟨ys, p0, p1, p2, p3, p4, p5, p6, rfl, sm1, hf, hm⟩
    obtain ⟨w, hw, rfl⟩ := map_get hu
    refine ⟨by show 0 ≤ sizeLine; decide, fun t0 ht0 => ⟨by show 1 ≤ sizeLine; decide, fun rw_ hrw => ?_⟩⟩
    have s3 : Same H' (upd H' t0 (.tup [])) := Same.new ht0
    have s4 : Same H' (upd (upd H' t0 (.tup [])) rw_ (.lst [.ref t0])) := s3.trans (Same.new hrw)
    have ml := flat_len (sts := sts) sm ((sysWords rs).take i)
    rw [List.length_take] at ml
    refine pure_mv_2 TH T sm eq nfo (sm1.trans s4) hx ha (s4 _ _ hf) (paired_mono (fun _ _ z => z.mono s4) hm) (by omega) upd_same (.cons ⟨t0, rfl, SqT.of ((Same.new hrw : Same _ (upd (upd H' t0 (.tup [])) rw_ (.lst [.ref t0]))) _ _ upd_same)⟩ .nil) fun H5 xs' q1 q2 q3 q4 q5 q6 s5 hf5 hm5 => ?_
    refine ⟨xs', _, _, _, _, _, _, _, rfl, s5, hf5, ?_⟩
    rw [List.take_add_one, hw, Option.toList_some, List.flatMap_append, List.flatMap_cons, List.flatMap_nil, List.append_nil]
    exact hm5
  · rintro σ H' ⟨ys, p0, p1, p2, p3, p4, p5, p6, rfl, sm1, hf, hm⟩
    rw [List.length_map, List.take_length] at hm
    exact ⟨_, rfl, hok sts st rfl fo H' sm1 nfo ⟨ys, hf, hm⟩⟩
end Sd
namespace Sd
open PySem PySem.Spec PyProof.Rows L2
/-! ### _law_words, _law_numbers -/
theorem lc_wordsE {g : Ga} {σ : L2.St} {H : Hp} {Q : VK} {te : TE} {c : Nat} {l : Addr} {xs : List V} {L : List Step} (ht : ∀ Q : VK, Q (.ref l) H → te σ H Q) (hc : c < σ.length) (hs : SqL g.K H l xs) (hL : StepsAt g.K H xs L) (few : L.length ≤ 1000)
    (q : ∀ D H', Same H H' → H D = none → H' D = some (.lst ((L.map (·.2.1)).map V.str)) → Q (.ref D) H') :
    tLc (iList g.K te) (gName c) tYes (tOp (rIxT g.K) (tVar c) (tC (.int 1))) [c] σ H Q := by
  have hlen := hL.length
  refine ht _ ⟨l, rfl, ⟨_, hs⟩, fun D hD => ?_⟩
  refine lc_list (K := g.K) (a := l) (xs := xs) (fun i H' => Same H H' ∧ H' D = some (.lst (((L.take i).map (·.2.1)).map V.str))) ⟨Same.new hD, upd_same⟩ (fun i H' _ z => z.1.seq hs) ?_ ?_
  · rintro i x H' hx ⟨sm, hy⟩
    obtain ⟨t, ht, a, rfl, st⟩ := paired_get hL hx
    refine ⟨blk_set _ hc, ?_⟩
    refine ⟨_, blk_own _ hc, a, _, _, .str t.2.1, rfl, rfl, Same.tup sm st, rfl, _, hy, ?_, Same.own sm hD, ?_⟩
    · rw [List.length_map, List.length_map, List.length_take]
      exact small1000 (by omega)
    · rw [upd_same, List.take_add_one, ht, Option.toList_some, List.map_append, List.map_append]; rfl
  · rintro H' ⟨sm, hy⟩
    rw [hlen, List.take_length] at hy
    exact q D H' sm hD hy
theorem sysWords_law (rs : List Rw) : uniq (rs.flatMap fun r => r.2.map (·.2.1)) = sysWords rs := by
  unfold sysWords
  refine uniq_congr fun y => ?_
  rw [List.mem_flatMap, List.mem_flatMap]
  exact ⟨fun ⟨r, h, m⟩ => ⟨r, h, mem_uniq.mpr m⟩, fun ⟨r, h, m⟩ => ⟨r, h, mem_uniq.mp m⟩⟩
def sp_law_words (g : Ga) : Sp := fun vs H Q _ => ∃ (rl : Addr) (rs : List Rw), vs = [.ref rl] ∧ RowsAt g H rl rs ∧ rs.length ≤ 20 ∧ (∀ r ∈ rs, r.2.length ≤ 24) ∧ ∀ D H', Same H H' → H D = none → H' D = some (.lst ((sysWords rs).map V.str)) → Q (.ref D) H'
def t_law_words (g : Ga) : TS := (tSeq (tAsg (tLst tNil) (gName 1)) (tSeq (tFor (iList g.K (tVar 0)) (gName 2) (tAsg (tOp rCat (tVar 1) (tLc (iList g.K (tOp (rIxT g.K) (tVar 2) (tC (.int 1)))) (gName 3) tYes (tOp (rIxT g.K) (tVar 3) (tC (.int 1))) [3])) (gName 1))) (tRet (tCB (rSortX g.w) (tCons (tCB (rSetT g.K g.w) (tCons (tVar 1) tNil)) tNil)))))
theorem flat24 : ∀ {rs : List Rw}, (∀ r ∈ rs, r.2.length ≤ 24) → (rs.flatMap fun r => r.2.map (·.2.1)).length ≤ 24 * rs.length
  | [], _ => by simp
  | r :: rs, h => by
    have h1 := h r List.mem_cons_self
    have h2 := flat24 fun x hx => h x (List.mem_cons_of_mem _ hx)
    rw [List.flatMap_cons, List.length_append, List.length_map, List.length_cons]
    omega
theorem pure_law_words {g : Ga} {vs : List V} {H : Hp} {Q : VK} {E : XK} {N : List Str} (hN : N.length = 4) (h : sp_law_words g vs H Q E) : t_law_words g (endsQ Q) (L2.start N vs) H := by
  obtain ⟨rl, rs, rfl, hr, r20, l24, q⟩ := h
  have e0 : L2.start N [.ref rl] = [some (.ref rl), none, none, none] := by unfold L2.start; rw [hN]; rfl
  rw [e0]
  obtain ⟨xs, hx, hp⟩ := hr.ex
  have lx := hp.length
  refine ⟨by show 0 ≤ sizeLine; decide, fun w0 hw0 => ?_⟩
  have nw0 := hw0
  refine ⟨_, rfl, rl, rfl, ⟨_, SqL.of ((Same.new hw0 : Same H (upd H w0 (.lst []))) _ _ hx)⟩, for_list (K := g.K) (a := rl) (xs := xs) (fun i σ H' => ∃ (w1 : Addr) (p q : Option V), σ = [some (.ref rl), some (.ref w1), p, q] ∧ Same H H' ∧ H w1 = none ∧ H' w1 = some (.lst (((rs.take i).flatMap fun r => r.2.map (·.2.1)).map V.str))) ⟨w0, none, none, rfl, Same.new hw0, hw0, upd_same⟩ (fun i σ H' _ ⟨_, _, _, _, sm, _⟩ => SqL.of (sm _ _ hx)) ?_ ?_⟩
  · rintro i v σ H' hv ⟨w1, p, q', rfl, sm, nw, hw⟩
    obtain ⟨r, hr1, row⟩ := paired_get hp hv
    obtain ⟨a, l, zs, rfl, h1, h2, h3⟩ := (row.mono sm).ex
    have rl24 := l24 r (List.mem_of_getElem? hr1)
    refine ⟨_, rfl, ?_⟩
    refine lc_wordsE (l := l) (xs := zs) (L := r.2) (fun Q q => ⟨_, rfl, a, _, _, .ref l, rfl, rfl, SqT.of h1, rfl, q⟩) (by show 3 < 4; decide) (SqL.of h2) h3 (by omega) fun D H2 s2 nD hD => ?_
    have hw2 := s2 _ _ hw
    have fl := flat24 (rs := rs.take i) fun r h => l24 r (List.mem_of_mem_take h)
    have tl : (rs.take i).length ≤ rs.length := by rw [List.length_take]; omega
    refine ⟨w1, D, _, _, rfl, rfl, hw2, hD, ?_, fun p2 np2 => ?_⟩
    · rw [List.length_map, List.length_map, List.length_map]; exact Nat.le_of_lt (big_line (by omega))
    · have s02 := sm.trans s2
      refine ⟨p2, _, _, rfl, s02.trans (Same.new np2), s02.free np2, ?_⟩
      rw [upd_same, List.take_add_one, hr1, Option.toList_some, List.flatMap_append, List.map_append]; simp
  · rintro σ H' ⟨w1, p, q', rfl, sm, nw, hw⟩
    rw [lx, List.take_length] at hw
    have fl := flat24 l24
    refine ⟨_, rfl, w1, _, rfl, .inl (SqL.of hw), by omega, fun S hS => ?_⟩
    refine ⟨S, _, rfl, upd_same, fun t ht => ?_⟩
    rw [uniq_allT, sysWords_law]
    have s2 : Same H' (upd H' S (TxO g.w S (allT (rs.flatMap fun r => r.2.map (·.2.1))))) := Same.new hS
    exact q t _ (sm.trans (s2.trans (Same.new ht))) ((sm.trans s2).free ht) upd_same
def sp_law_numbers (g : Ga) : Sp := fun vs H Q _ => ∃ (v : V) (st : Int) (w : Str) (r : Rw), vs = [v, .int st, .str w] ∧ RowAt g.K H v r ∧ r.2.length ≤ 1000 ∧ ∀ D H', Same H H' → H D = none → H' D = some (.lst ((numbersOf r.2 st w).map optV)) → Q (.ref D) H'
def t_law_numbers (g : Ga) : TS := (tSeq (tIfS (tTest (tOp (rIn g.K true) (tVar 2) (tLc (iList g.K (tOp (rIxT g.K) (tVar 0) (tC (.int 1)))) (gName 3) tYes (tOp (rIxT g.K) (tVar 3) (tC (.int 1))) [3]))) (tRet (tLst (tCons (tC .non) tNil))) tNext) (tRet (tLc (iRng1 (tCons (tCB (rLenS g.K) (tCons (tOp (rIxT g.K) (tVar 0) (tC (.int 1))) tNil)) tNil)) (gName 4) (tAnd (tTest (tOp rEq (tOp (rIxT g.K) (tOp (rIxL g.K) (tOp (rIxT g.K) (tVar 0) (tC (.int 1))) (tVar 4)) (tC (.int 0))) (tVar 1))) (tTest (tOp rEq (tOp (rIxT g.K) (tOp (rIxL g.K) (tOp (rIxT g.K) (tVar 0) (tC (.int 1))) (tVar 4)) (tC (.int 1))) (tVar 2)))) (tVar 4) [4])))
theorem pure_law_numbers {g : Ga} {vs : List V} {H : Hp} {Q : VK} {E : XK} {N : List Str} (hN : N.length = 5) (h : sp_law_numbers g vs H Q E) : t_law_numbers g (endsQ Q) (L2.start N vs) H := by
  obtain ⟨v, st, w, r, rfl, hr, few, q⟩ := h
  have e0 : L2.start N [v, .int st, .str w] = [some v, some (.int st), some (.str w), none, none] := by unfold L2.start; rw [hN]; rfl
  rw [e0]
  obtain ⟨a, l, xs, rfl, h1, h2, h3⟩ := hr.ex
  have lx := h3.length
  refine ⟨_, rfl, ?_⟩
  refine lc_wordsE (l := l) (xs := xs) (L := r.2) (fun Q q => ⟨_, rfl, a, _, _, .ref l, rfl, rfl, SqT.of h1, rfl, q⟩) (by show 3 < 5; decide) (SqL.of h2) h3 few fun D1 H1 s1 nD1 hD1 => ?_
  refine ⟨D1, _, rfl, .inl (SqL.of hD1), rfl, str_flat _, _, rfl, ?_⟩
  rw [if_pos rfl, inV_str]
  by_cases c : w ∈ r.2.map (·.2.1)
  · rw [decide_eq_true c]
    have en : numbersOf r.2 st w = (hits st w r.2).map fun k : Nat => some (k : Int) := by unfold numbersOf; rw [if_pos c]
    refine iteF ⟨_, rfl, a, _, _, .ref l, rfl, rfl, SqT.of (s1 _ _ h1), rfl, l, xs, rfl, .inl (SqL.of (s1 _ _ h2)), _, rfl, by omega, by omega, fun D hD => ?_⟩
    refine lc_range (n := xs.length) (fun i H' => Same H1 H' ∧ H' D = some (.lst ((((List.range i).filter fun k => (r.2[k]?.map (hit st w)).getD false).map fun k : Nat => some (k : Int)).map optV))) ⟨Same.new hD, upd_same⟩ ?_ ?_
    · rintro i H' hi ⟨sm, hD'⟩
      obtain ⟨s, hs, b, eb, sb⟩ := paired_get h3 (List.getElem?_eq_getElem hi)
      have s01 := s1.trans sm
      have ll : ((List.range i).filter fun k => (r.2[k]?.map (hit st w)).getD false).length ≤ i := by
        have := List.length_filter_le (fun k => (r.2[k]?.map (hit st w)).getD false) (List.range i)
        rwa [List.length_range] at this
      have ax : atI xs (0 + (i : Int)) = some (.ref b) := by
        rw [Int.zero_add]; exact atI_nat (by rw [List.getElem?_eq_getElem hi, eb])
      refine ⟨rfl, ?_⟩
      refine ⟨_, rfl, a, _, _, .ref l, rfl, rfl, SqT.of (s01 _ _ h1), rfl, _, rfl, l, xs, _, .ref b, rfl, rfl, SqL.of (s01 _ _ h2), ax, b, _, _, .int s.1, rfl, rfl, Same.tup s01 sb, rfl, _, rfl, rfl, _, rfl, ?_⟩
      have no : hit st w s = false → (Same H1 H' ∧ H' D = some (.lst ((((List.range (i + 1)).filter fun k => (r.2[k]?.map (hit st w)).getD false).map fun k : Nat => some (k : Int)).map optV))) := fun h => by
        refine ⟨sm, ?_⟩
        rw [hits_snoc hs, if_neg (by rw [h]; decide), List.append_nil]
        exact hD'
      by_cases c1 : s.1 = st
      · rw [decide_eq_true (show V.int s.1 = V.int st by rw [c1])]
        refine iteT ⟨_, rfl, a, _, _, .ref l, rfl, rfl, SqT.of (s01 _ _ h1), rfl, _, rfl, l, xs, _, .ref b, rfl, rfl, SqL.of (s01 _ _ h2), ax, b, _, _, .str s.2.1, rfl, rfl, Same.tup s01 sb, rfl, _, rfl, rfl, _, rfl, ?_⟩
        by_cases c2 : s.2.1 = w
        · rw [decide_eq_true (show V.str s.2.1 = V.str w by rw [c2])]
          refine iteT ⟨_, rfl, _, hD', ?_, Same.own sm hD, ?_⟩
          · rw [List.length_map, List.length_map]; exact small1000 (by omega)
          · have hh : hit st w s = true := by unfold hit; rw [decide_eq_true c1, decide_eq_true c2]; rfl
            rw [upd_same, hits_snoc hs, if_pos hh, List.map_append, List.map_append, Int.zero_add]; rfl
        · rw [decide_eq_false (show ¬ V.str s.2.1 = V.str w from fun z => c2 (by injection z))]
          exact iteF (no (by unfold hit; rw [decide_eq_false c2, Bool.and_false]))
      · rw [decide_eq_false (show ¬ V.int s.1 = V.int st from fun z => c1 (by injection z))]
        exact iteF (iteF (no (by unfold hit; rw [decide_eq_false c1, Bool.false_and])))
    · rintro H' ⟨sm, hD'⟩
      refine q D H' (s1.trans sm) (s1.free hD) ?_
      rw [en, hD', lx]; rfl
  · rw [decide_eq_false c]
    have en : numbersOf r.2 st w = [none] := by unfold numbersOf; rw [if_neg c]
    refine iteT ⟨by show 1 ≤ sizeLine; decide, fun D hD => ?_⟩
    exact q D _ (s1.trans (Same.new hD)) (s1.free hD) (by rw [en]; exact upd_same)
end Sd
namespace Sd
open PySem PySem.Spec PyProof.Rows L2
/-! ### _law_moves -/
def sp_law_moves (g : Ga) : Sp := fun vs H Q _ => ∃ (rl a : Addr) (rs : List Rw) (sts : List Int), vs = [.ref rl, .ref a] ∧ RowsAt g H rl rs ∧ SqT g.K H a (sts.map V.int) ∧ sts.length = rs.length ∧ SmallR rs ∧ (∀ r ∈ rs, r.2.length ≤ 24) ∧ ∀ D H', Same H H' → H D = none → MovesAt g H' D (movesOf rs sts) → Q (.ref D) H'
def t_lm_2 (g : Ga) : TS := (tSeq (tFor (iList g.K (tVar 4)) (gName 7) (tAsg (tOp rCat (tVar 6) (tLc (iList g.K (tCall (sp_law_numbers g) [] E0 (tCons (tOp (rIxL g.K) (tVar 0) (tVar 5)) (tCons (tOp (rIxT g.K) (tVar 1) (tVar 5)) (tCons (tVar 3) tNil))))) (gName 8) tYes (tOp (rCatA g.K) (tVar 7) (tTup (tCons (tVar 8) tNil))) [8])) (gName 6))) (tAsg (tVar 6) (gName 4)))
def t_lm_1 (g : Ga) : TS := (tSeq (tFor (iRng1 (tCons (tCB (rLenS g.K) (tCons (tVar 0) tNil)) tNil)) (gName 5) (tSeq (tAsg (tLst tNil) (gName 6)) (t_lm_2 g))) (tAsg (tOp rCat (tVar 2) (tLc (iList g.K (tVar 4)) (gName 7) tYes (tTup (tCons (tVar 3) (tCons (tVar 7) tNil))) [7])) (gName 2)))
def t_law_moves (g : Ga) : TS := (tSeq (tAsg (tLst tNil) (gName 2)) (tSeq (tFor (iList g.K (tCall (sp_law_words g) [] E0 (tCons (tVar 0) tNil))) (gName 3) (tSeq (tAsg (tLst (tCons (tTup tNil) tNil)) (gName 4)) (t_lm_1 g))) (tRet (tVar 2))))
/-- for line in lines: longer = longer + [line + (k,) for k in numbers(rows[at], states[at], word)]; lines = longer -/
theorem pure_lm_2 {g : Ga} {D : Ends} {H : Hp} {p7 p8 : Option V} {rl a fo ln lg : Addr} {w : Str} {i : Nat} {ys : List V} {ls : List (List (Option Int))} {rs : List Rw} {sts : List Int} {r : Rw} {st : Int} (hr : RowsAt g H rl rs) (ha : SqT g.K H a (sts.map V.int)) (hr1 : rs[i]? = some r) (hst : sts[i]? = some st) (n4 : (numbersOf r.2 st w).length ≤ 4) (r24 : r.2.length ≤ 24)
    (hl : H ln = some (.lst ys)) (hls : Paired (LineAt g.K H) ys ls) (l256 : ls.length ≤ 256) (len : ∀ l ∈ ls, l.length ≤ 100) (hg : H lg = some (.lst []))
    (q : ∀ l2 zs H' p7 p8, Same H H' → H' l2 = some (.lst zs) → Paired (LineAt g.K H') zs (stepL ls (numbersOf r.2 st w)) → D.nx [some (.ref rl), some (.ref a), some (.ref fo), some (.str w), some (.ref l2), some (.int (0 + (i : Int))), some (.ref l2), p7, p8] H') :
    t_lm_2 g D [some (.ref rl), some (.ref a), some (.ref fo), some (.str w), some (.ref ln), some (.int (0 + (i : Int))), some (.ref lg), p7, p8] H := by
  have ly := hls.length
  obtain ⟨xs, hx, hp⟩ := hr.ex
  have il : i < rs.length := (List.getElem?_eq_some_iff.mp hr1).1
  have lx := hp.length
  have ixl : i < xs.length := by omega
  have axx : atI xs (0 + (i : Int)) = some xs[i] := by rw [Int.zero_add]; exact atI_nat (List.getElem?_eq_getElem ixl)
  have row : RowAt g.K H xs[i] r := by
    obtain ⟨r', h', z⟩ := paired_get hp (List.getElem?_eq_getElem ixl)
    rw [hr1] at h'
    cases h'
    exact z
  have axs : atI (sts.map V.int) (0 + (i : Int)) = some (.int st) := by rw [Int.zero_add]; exact atI_nat (by rw [List.getElem?_map, hst]; rfl)
  refine ⟨_, rfl, ln, rfl, ⟨_, SqL.of hl⟩, for_list (K := g.K) (a := ln) (xs := ys) (fun j σ H' => ∃ (l2 : Addr) (zs : List V) (p7 p8 : Option V), σ = [some (.ref rl), some (.ref a), some (.ref fo), some (.str w), some (.ref ln), some (.int (0 + (i : Int))), some (.ref l2), p7, p8] ∧ Same H H' ∧ H' l2 = some (.lst zs) ∧ Paired (LineAt g.K H') zs (stepL (ls.take j) (numbersOf r.2 st w))) ⟨lg, [], _, _, rfl, Same.refl H, hg, .nil⟩ (fun j σ H' _ ⟨_, _, _, _, _, sm, _⟩ => SqL.of (sm _ _ hl)) ?_ ?_⟩
  · rintro j v σ H' hv ⟨l2, zs, q7, q8, rfl, sm, h2, hz⟩
    obtain ⟨l, hl1, lv⟩ := paired_get hls hv
    have ll := len l (List.mem_of_getElem? hl1)
    have zl := hz.length
    have tk := stepL_len (ls := ls.take j) n4
    have tl : (ls.take j).length ≤ ls.length := by rw [List.length_take]; omega
    refine ⟨_, rfl, _, rfl, _, rfl, rl, xs, _, xs[i], rfl, rfl, SqL.of (sm _ _ hx), axx, _, rfl, _, rfl, a, _, _, .int st, rfl, rfl, Same.tup sm ha, axs, _, rfl, xs[i], st, w, r, rfl, row.mono sm, by omega, fun nl H2 s2 nnl hnl => ?_⟩
    refine ⟨nl, rfl, ⟨_, SqL.of hnl⟩, fun Dl hD => ?_⟩
    refine lc_list (K := g.K) (a := nl) (xs := (numbersOf r.2 st w).map optV) (fun k H3 => ∃ us, Same H2 H3 ∧ H3 Dl = some (.lst us) ∧ Paired (LineAt g.K H3) us (((numbersOf r.2 st w).take k).map fun n => l ++ [n])) ⟨[], Same.new hD, upd_same, .nil⟩ (fun k H3 _ ⟨_, z, _⟩ => SqL.of (z _ _ hnl)) ?_ ?_
    · rintro k x H3 hx3 ⟨us, sm3, hD3, hu⟩
      obtain ⟨n, hn1, rfl⟩ := map_get hx3
      have ul := hu.length
      rw [List.length_map, List.length_take] at ul
      refine ⟨rfl, e_yes (cat_one (l := l) (n := n) rfl rfl (lv.mono (sm.trans (s2.trans sm3))) ll fun u H4 s4 hu4 => ?_)⟩
      have hD4 := s4 _ _ hD3
      refine ⟨us, hD4, big_line (by omega), us ++ [u], Same.own (sm3.trans s4) hD, upd_same, ?_⟩
      rw [List.take_add_one, hn1, Option.toList_some, List.map_append]
      exact paired_app (paired_mono (fun _ _ z => (z.mono s4).upd hD4) hu) (.cons (hu4.upd hD4) .nil)
    · rintro H3 ⟨us, sm3, hD3, hu⟩
      rw [List.length_map, List.take_length] at hu
      have ul := hu.length
      rw [List.length_map] at ul
      have s23 := s2.trans sm3
      refine ⟨l2, Dl, zs, us, rfl, rfl, s23 _ _ h2, hD3, Nat.le_of_lt (big_line (by omega)), fun p hp => ?_⟩
      have s4 : Same H3 (upd H3 p (.lst (zs ++ us))) := Same.new hp
      refine ⟨p, zs ++ us, _, _, rfl, sm.trans (s23.trans s4), upd_same, ?_⟩
      have e : stepL (ls.take (j + 1)) (numbersOf r.2 st w) = stepL (ls.take j) (numbersOf r.2 st w) ++ (numbersOf r.2 st w).map fun n => l ++ [n] := by
        unfold stepL
        rw [List.take_add_one, hl1, Option.toList_some, List.flatMap_append]; simp
      rw [e]
      exact paired_app (paired_mono (fun _ _ z => z.mono (s23.trans s4)) hz) (paired_mono (fun _ _ z => z.mono s4) hu)
  · rintro σ H' ⟨l2, zs, q7, q8, rfl, sm, h2, hz⟩
    rw [ly, List.take_length] at hz
    exact ⟨_, rfl, q l2 zs H' _ _ sm h2 hz⟩
theorem pure_lm_1 {g : Ga} {D : Ends} {H0 H : Hp} {p5 p6 p7 p8 : Option V} {rl a fo ln : Addr} {w : Str} {xs ys : List V} {ms : List Move} {rs : List Rw} {sts : List Int} (s0 : Same H0 H) (hr : RowsAt g H0 rl rs) (ha : SqT g.K H0 a (sts.map V.int)) (sl : sts.length = rs.length) (sm : SmallR rs) (r24 : ∀ r ∈ rs, r.2.length ≤ 24) (hf : H fo = some (.lst xs)) (hm : Paired (MoveAt g.K H) xs ms) (m1 : ms.length ≤ 4000) (hl : H ln = some (.lst ys)) (hls : Paired (LineAt g.K H) ys [[]])
    (q : ∀ f2 xs' H' p4 p5 p6 p7 p8, Same H H' → H' f2 = some (.lst xs') → H f2 = none → Paired (MoveAt g.K H') xs' (ms ++ movesW rs sts w) → D.nx [some (.ref rl), some (.ref a), some (.ref f2), some (.str w), p4, p5, p6, p7, p8] H') :
    t_lm_1 g D [some (.ref rl), some (.ref a), some (.ref fo), some (.str w), some (.ref ln), p5, p6, p7, p8] H := by
  obtain ⟨rx, hrx, hrp⟩ := hr.ex
  have lrx := hrp.length
  have n4 := sm.n4
  refine ⟨_, rfl, rl, rx, rfl, .inl (SqL.of (s0 _ _ hrx)), _, rfl, by omega, by omega, for_range (n := rx.length) (fun i σ H' => ∃ (l2 : Addr) (zs : List V) (p5 p6 p7 p8 : Option V), σ = [some (.ref rl), some (.ref a), some (.ref fo), some (.str w), some (.ref l2), p5, p6, p7, p8] ∧ Same H H' ∧ H' l2 = some (.lst zs) ∧ Paired (LineAt g.K H') zs (linesOf ((numsAt rs sts w).take i))) ⟨ln, ys, _, _, _, _, rfl, Same.refl H, hl, hls⟩ ?_ ?_⟩
  · rintro i σ H' hi ⟨l2, zs, p5, p6, p7, p8, rfl, s1, h2, hz⟩
    obtain ⟨r, hr1⟩ : ∃ r, rs[i]? = some r := ⟨rs[i]'(by omega), List.getElem?_eq_getElem _⟩
    obtain ⟨st, hst⟩ : ∃ st, sts[i]? = some st := ⟨sts[i]'(by omega), List.getElem?_eq_getElem _⟩
    have rm := List.mem_of_getElem? hr1
    refine ⟨by show 0 ≤ sizeLine; decide, fun lg hlg => ?_⟩
    have s2 : Same H' (upd H' lg (.lst [])) := Same.new hlg
    have tk := lines_4 (sts := sts) (w := w) i n4 sm.nu
    refine pure_lm_2 (RowsAt.mono ((s0.trans s1).trans s2) hr) (Same.tup ((s0.trans s1).trans s2) ha) hr1 hst (sm.nu r rm st w) (r24 r rm) (s2 _ _ h2) (paired_mono (fun _ _ z => z.mono s2) hz) tk (fun l hl => ?_) upd_same fun l3 us H3 q7 q8 s3 h3 hu => ?_
    · rw [linesOf_lens _ rfl l hl, List.length_take]; have := nums_len (w := w) sl; omega
    · refine ⟨l3, us, _, _, _, _, rfl, s1.trans (s2.trans s3), h3, ?_⟩
      rw [List.take_add_one, nums_at hr1 hst, Option.toList_some, linesOf_snoc]
      exact hu
  · rintro σ H' ⟨l2, zs, p5, p6, p7, p8, rfl, s1, h2, hz⟩
    have e : (numsAt rs sts w).take rx.length = numsAt rs sts w := List.take_of_length_le (by rw [nums_len sl]; omega)
    have tk := lines_4 (sts := sts) (w := w) rx.length n4 sm.nu
    rw [e] at hz tk
    have lz := hz.length
    have lxm := hm.length
    refine ⟨_, rfl, _, rfl, l2, rfl, ⟨_, SqL.of h2⟩, fun Dl hD => ?_⟩
    refine lc_list (K := g.K) (a := l2) (xs := zs) (fun k H3 => ∃ us, Same H' H3 ∧ H3 Dl = some (.lst us) ∧ Paired (MoveAt g.K H3) us (((linesOf (numsAt rs sts w)).take k).map fun l => (w, l))) ⟨[], Same.new hD, upd_same, .nil⟩ (fun k H3 _ ⟨_, z, _⟩ => SqL.of (z _ _ h2)) ?_ ?_
    · rintro k v H3 hv ⟨us, sm3, hD3, hu⟩
      obtain ⟨l, hl1, b1, rfl, lv⟩ := paired_get hz hv
      have ul := hu.length
      rw [List.length_map, List.length_take] at ul
      refine ⟨rfl, _, rfl, _, rfl, by show 2 ≤ sizeLine; decide, fun t ht => ?_⟩
      have s4 : Same H3 (upd H3 t (.tup [.str w, .ref b1])) := Same.new ht
      have hD4 := s4 _ _ hD3
      refine ⟨us, hD4, big_line (by omega), us ++ [.ref t], Same.own (sm3.trans s4) hD, upd_same, ?_⟩
      rw [List.take_add_one, hl1, Option.toList_some, List.map_append]
      refine paired_app (paired_mono (fun _ _ z => (z.mono s4).upd hD4) hu) (.cons (MoveAt.upd hD4 ⟨t, b1, rfl, SqT.of upd_same, Same.tup (sm3.trans s4) lv⟩) .nil)
    · rintro H3 ⟨us, sm3, hD3, hu⟩
      rw [lz, List.take_length] at hu
      have ul := hu.length
      rw [List.length_map] at ul
      have s13 := s1.trans sm3
      refine ⟨fo, Dl, xs, us, rfl, rfl, s13 _ _ hf, hD3, Nat.le_of_lt (big_line (by omega)), fun p hp => ?_⟩
      have s4 : Same H3 (upd H3 p (.lst (xs ++ us))) := Same.new hp
      exact q p (xs ++ us) _ _ _ _ _ _ (s13.trans s4) upd_same (s13.free hp) (paired_app (paired_mono (fun _ _ z => z.mono (s13.trans s4)) hm) (paired_mono (fun _ _ z => z.mono s4) hu))
theorem pure_law_moves {g : Ga} {vs : List V} {H : Hp} {Q : VK} {E : XK} {N : List Str} (hN : N.length = 9) (h : sp_law_moves g vs H Q E) : t_law_moves g (endsQ Q) (L2.start N vs) H := by
  obtain ⟨rl, a, rs, sts, rfl, hr, ha, sl, sm, r24, q⟩ := h
  have e0 : L2.start N [.ref rl, .ref a] = [some (.ref rl), some (.ref a), none, none, none, none, none, none, none] := by unfold L2.start; rw [hN]; rfl
  rw [e0]
  have n4 := sm.n4
  have w12 := sm.w12
  refine ⟨by show 0 ≤ sizeLine; decide, fun fo hfo => ?_⟩
  have s1 : Same H (upd H fo (.lst [])) := Same.new hfo
  refine ⟨_, rfl, rl, rs, rfl, RowsAt.mono s1 hr, by omega, r24, fun wl H1 s2 nwl hwl => ?_⟩
  have s02 := s1.trans s2
  refine ⟨wl, rfl, ⟨_, SqL.of hwl⟩, for_list (K := g.K) (a := wl) (xs := (sysWords rs).map V.str) (fun i σ H' => ∃ (f2 : Addr) (ys : List V) (p3 p4 p5 p6 p7 p8 : Option V), σ = [some (.ref rl), some (.ref a), some (.ref f2), p3, p4, p5, p6, p7, p8] ∧ Same H1 H' ∧ H f2 = none ∧ H' f2 = some (.lst ys) ∧ Paired (MoveAt g.K H') ys (((sysWords rs).take i).flatMap (movesW rs sts))) ⟨fo, [], _, _, _, _, _, _, rfl, Same.refl _, hfo, s2 _ _ upd_same, .nil⟩ (fun i σ H' _ ⟨_, _, _, _, _, _, _, _, _, z, _⟩ => SqL.of (z _ _ hwl)) ?_ ?_⟩
  · rintro i u σ H' hu ⟨f2, ys, p3, p4, p5, p6, p7, p8, rfl, s3, nf2, hf, hm⟩
    obtain ⟨w, hw, rfl⟩ := map_get hu
    refine ⟨by show 0 ≤ sizeLine; decide, fun t0 ht0 => ⟨by show 1 ≤ sizeLine; decide, fun ln hln => ?_⟩⟩
    have s4 : Same H' (upd (upd H' t0 (.tup [])) ln (.lst [.ref t0])) := (Same.new ht0 : Same H' (upd H' t0 (.tup []))).trans (Same.new hln)
    have ml := flat_len (sts := sts) sm ((sysWords rs).take i)
    rw [List.length_take] at ml
    refine pure_lm_1 ((s02.trans s3).trans s4) hr ha sl sm r24 (s4 _ _ hf) (paired_mono (fun _ _ z => z.mono s4) hm) (by omega) upd_same (.cons ⟨t0, rfl, SqT.of ((Same.new hln : Same _ (upd (upd H' t0 (.tup [])) ln (.lst [.ref t0]))) _ _ upd_same)⟩ .nil) fun f3 xs' H5 q4 q5 q6 q7 q8 s5 hf5 nf5 hm5 => ?_
    refine ⟨f3, xs', _, _, _, _, _, _, rfl, ?_, ((s02.trans s3).trans s4).free nf5, hf5, ?_⟩
    · exact s3.trans (s4.trans s5)
    · rw [List.take_add_one, hw, Option.toList_some, List.flatMap_append, List.flatMap_cons, List.flatMap_nil, List.append_nil]
      exact hm5
  · rintro σ H' ⟨f2, ys, p3, p4, p5, p6, p7, p8, rfl, s3, nf2, hf, hm⟩
    rw [List.length_map, List.take_length] at hm
    exact ⟨_, rfl, q f2 H' (s02.trans s3) nf2 ⟨ys, hf, hm⟩⟩
end Sd
namespace Sd
open PySem PySem.Spec PyProof.Rows L2
/-! ### _law_start, _law_behind -/
def StAt (K : PySem.W.Frag) (H : Hp) (v : V) (sts : List Int) : Prop := ∃ b, v = .ref b ∧ H b = some (.tup (sts.map V.int))
theorem StAt.mono {K : PySem.W.Frag} {H H' : Hp} {v : V} {l : List Int} (s : Same H H') (h : StAt K H v l) : StAt K H' v l := let ⟨b, e, z⟩ := h; ⟨b, e, s _ _ z⟩
theorem StAt.upd {K : PySem.W.Frag} {H : Hp} {p : Addr} {ys : List V} {u : HO} {v : V} {l : List Int} (hp : H p = some (.lst ys)) (h : StAt K H v l) : StAt K (upd H p u) v l := let ⟨b, e, z⟩ := h; ⟨b, e, by rw [upd_ne (ne_of z hp (fun y => by cases y))]; exact z⟩
def sp_law_start (g : Ga) : Sp := fun vs H Q _ => ∃ (rl : Addr) (rs : List Rw), vs = [.ref rl] ∧ RowsAt g H rl rs ∧ rs.length ≤ 100 ∧ ∀ v H', Same H H' → StAt g.K H' v (rs.map (·.1)) → Q v H'
def t_law_start (g : Ga) : TS := (tRet (tCB (rTupS g.K) (tCons (tLc (iList g.K (tVar 0)) (gName 1) tYes (tOp (rIxT g.K) (tVar 1) (tC (.int 0))) [1]) tNil)))
theorem pure_law_start {g : Ga} {vs : List V} {H : Hp} {Q : VK} {E : XK} {N : List Str} (hN : N.length = 2) (h : sp_law_start g vs H Q E) : t_law_start g (endsQ Q) (L2.start N vs) H := by
  obtain ⟨rl, rs, rfl, hr, few, q⟩ := h
  have e0 : L2.start N [.ref rl] = [some (.ref rl), none] := by unfold L2.start; rw [hN]; rfl
  rw [e0]
  obtain ⟨xs, hx, hp⟩ := hr.ex
  have lx := hp.length
  refine ⟨_, rfl, rl, rfl, ⟨_, SqL.of hx⟩, fun D hD => ?_⟩
  refine lc_list (K := g.K) (a := rl) (xs := xs) (fun i H' => Same H H' ∧ H' D = some (.lst (((rs.take i).map (·.1)).map V.int))) ⟨Same.new hD, upd_same⟩ (fun i H' _ z => SqL.of (z.1 _ _ hx)) ?_ ?_
  · rintro i v H' hv ⟨sm, hD'⟩
    obtain ⟨r, hr1, row⟩ := paired_get hp hv
    obtain ⟨a, l, zs, rfl, h1, h2, h3⟩ := (row.mono sm).ex
    refine ⟨rfl, _, rfl, a, _, _, .int r.1, rfl, rfl, SqT.of h1, rfl, _, hD', ?_, Same.own sm hD, ?_⟩
    · rw [List.length_map, List.length_map, List.length_take]; exact small1000 (by omega)
    · rw [upd_same, List.take_add_one, hr1, Option.toList_some, List.map_append, List.map_append]; rfl
  · rintro H' ⟨sm, hD'⟩
    rw [lx, List.take_length] at hD'
    refine ⟨D, _, rfl, .inl ⟨SqL.of hD', fun t ht => ?_⟩⟩
    exact q (.ref t) _ (sm.trans (Same.new ht)) ⟨t, rfl, upd_same⟩
def behAt (rs : List Rw) (sts : List Int) (line : List (Option Int)) (i : Nat) : Int := match line[i]? with
  | some (some k) => (((rs[i]?.map (·.2)).getD [])[k.toNat]?.map (·.2.2)).getD 0
  | _ => sts[i]?.getD 0
def behindOf (rs : List Rw) (sts : List Int) (line : List (Option Int)) : List Int := (List.range rs.length).map (behAt rs sts line)
/-- each hand stands still, or takes a step that leaves its state -/
def ValidL (rs : List Rw) (sts : List Int) (line : List (Option Int)) : Prop := ∀ (i : Nat) (r : Rw) (st : Int), rs[i]? = some r → sts[i]? = some st → line[i]? = some none ∨ ∃ (k : Nat) (s : Step), line[i]? = some (some (k : Int)) ∧ r.2[k]? = some s ∧ s.1 = st
theorem mem_stepL {ls : List (List (Option Int))} {ns : List (Option Int)} {l : List (Option Int)} (h : l ∈ stepL ls ns) : ∃ l' n, l' ∈ ls ∧ n ∈ ns ∧ l = l' ++ [n] := by
  unfold stepL at h
  obtain ⟨l', h', hl⟩ := List.mem_flatMap.mp h
  obtain ⟨n, hn, rfl⟩ := List.mem_map.mp hl
  exact ⟨l', n, h', hn, rfl⟩
theorem mem_lines : ∀ {nums : List (List (Option Int))} (k : Nat), nums.length = k → ∀ l ∈ linesOf nums, l.length = k ∧ ∀ (i : Nat) n, nums[i]? = some n → ∃ o, l[i]? = some o ∧ o ∈ n := by
  intro nums k
  induction k generalizing nums with
  | zero => intro h l hl; rw [List.length_eq_zero_iff.mp h] at hl ⊢; simp [linesOf] at hl; rw [hl]; exact ⟨rfl, fun i n e => by simp at e⟩
  | succ k ih =>
    intro h l hl
    have ne : nums ≠ [] := fun e => by rw [e] at h; simp at h
    have ld : nums.dropLast.length = k := by rw [List.length_dropLast]; omega
    rw [← List.dropLast_concat_getLast ne, linesOf_snoc] at hl
    obtain ⟨l', n, h', hn, rfl⟩ := mem_stepL hl
    obtain ⟨e1, e2⟩ := ih (nums := nums.dropLast) ld l' h'
    refine ⟨by rw [List.length_append, e1]; rfl, fun i m hm => ?_⟩
    rw [← List.dropLast_concat_getLast ne] at hm
    by_cases c : i < k
    · rw [List.getElem?_append_left (by omega)] at hm ⊢
      exact e2 i m hm
    · rw [List.getElem?_append_right (by omega)] at hm ⊢
      have ei : i - nums.dropLast.length = 0 := by
        have := (List.getElem?_eq_some_iff.mp hm).1
        simp at this
        omega
      rw [ei] at hm
      have ei2 : i - l'.length = 0 := by omega
      rw [ei2]
      simp at hm
      exact ⟨n, rfl, by rw [← hm]; exact hn⟩
theorem mem_numbers {L : List Step} {st : Int} {w : Str} {o : Option Int} (h : o ∈ numbersOf L st w) : o = none ∨ ∃ (k : Nat) (s : Step), o = some (k : Int) ∧ L[k]? = some s ∧ s.1 = st := by
  unfold numbersOf at h
  split at h
  · obtain ⟨k, hk, rfl⟩ := List.mem_map.mp h
    unfold hits at hk
    have hf := (List.mem_filter.mp hk).2
    cases e : L[k]? with
    | none => rw [e] at hf; simp at hf
    | some s =>
      rw [e] at hf
      simp only [Option.map_some, Option.getD_some] at hf
      unfold hit at hf
      exact .inr ⟨k, s, rfl, e, of_decide_eq_true (Bool.and_eq_true_iff.mp hf).1⟩
  · exact .inl (List.mem_singleton.mp h)
theorem valid_of {rs : List Rw} {sts : List Int} {m : Move} (h : m ∈ movesOf rs sts) (sl : sts.length = rs.length) : m.2.length = rs.length ∧ ValidL rs sts m.2 := by
  unfold movesOf at h
  obtain ⟨w, hw, hm⟩ := List.mem_flatMap.mp h
  unfold movesW at hm
  obtain ⟨l, hl, rfl⟩ := List.mem_map.mp hm
  obtain ⟨e1, e2⟩ := mem_lines _ (nums_len (w := w) sl) l hl
  refine ⟨e1, fun i r st hr hst => ?_⟩
  obtain ⟨o, ho, mo⟩ := e2 i _ (nums_at hr hst)
  rcases mem_numbers mo with z | ⟨k, s, z, y⟩
  · exact .inl (by rw [← z]; exact ho)
  · exact .inr ⟨k, s, by rw [← z]; exact ho, y⟩
def sp_law_behind (g : Ga) : Sp := fun vs H Q _ => ∃ (rl : Addr) (u v : V) (rs : List Rw) (sts : List Int) (m : Move), vs = [.ref rl, u, v] ∧ RowsAt g H rl rs ∧ StAt g.K H u sts ∧ MoveAt g.K H v m ∧ sts.length = rs.length ∧ m.2.length = rs.length ∧ ValidL rs sts m.2 ∧ rs.length ≤ 100 ∧ ∀ v H', Same H H' → StAt g.K H' v (behindOf rs sts m.2) → Q v H'
def t_law_behind (g : Ga) : TS := (tSeq (tAsg (tLst tNil) (gName 3)) (tSeq (tFor (iRng1 (tCons (tCB (rLenS g.K) (tCons (tVar 0) tNil)) tNil)) (gName 4) (tIfS (tTest (tOp rIsN (tOp (rIxT g.K) (tOp (rIxT g.K) (tVar 2) (tC (.int 1))) (tVar 4)) (tC .non))) (tDrop (tBM g.K "list" rApp (tVar 3) (tCons (tOp (rIxT g.K) (tVar 1) (tVar 4)) tNil))) (tDrop (tBM g.K "list" rApp (tVar 3) (tCons (tOp (rIxT g.K) (tOp (rIxL g.K) (tOp (rIxT g.K) (tOp (rIxL g.K) (tVar 0) (tVar 4)) (tC (.int 1))) (tOp (rIxT g.K) (tOp (rIxT g.K) (tVar 2) (tC (.int 1))) (tVar 4))) (tC (.int 2))) tNil))))) (tRet (tCB (rTupS g.K) (tCons (tVar 3) tNil)))))
theorem pure_law_behind {g : Ga} {vs : List V} {H : Hp} {Q : VK} {E : XK} {N : List Str} (hN : N.length = 5) (h : sp_law_behind g vs H Q E) : t_law_behind g (endsQ Q) (L2.start N vs) H := by
  obtain ⟨rl, u, v, rs, sts, m, rfl, hr, ⟨a, rfl, ha⟩, ⟨ma, mb, rfl, hma, hmb⟩, sl, ml, val, few, q⟩ := h
  have e0 : L2.start N [.ref rl, .ref a, .ref ma] = [some (.ref rl), some (.ref a), some (.ref ma), none, none] := by unfold L2.start; rw [hN]; rfl
  rw [e0]
  obtain ⟨xs, hx, hp⟩ := hr.ex
  have lx := hp.length
  refine ⟨by show 0 ≤ sizeLine; decide, fun af haf => ?_⟩
  have s1 : Same H (upd H af (.lst [])) := Same.new haf
  refine ⟨_, rfl, rl, xs, rfl, .inl (SqL.of (s1 _ _ hx)), _, rfl, by omega, by omega, for_range (n := xs.length) (fun i σ H' => ∃ p : Option V, σ = [some (.ref rl), some (.ref a), some (.ref ma), some (.ref af), p] ∧ Same H H' ∧ H' af = some (.lst (((List.range i).map (behAt rs sts m.2)).map V.int))) ⟨none, rfl, s1, upd_same⟩ ?_ ?_⟩
  · rintro i σ H' hi ⟨p, rfl, sm, hf⟩
    obtain ⟨r, hr1, row⟩ := paired_get hp (List.getElem?_eq_getElem hi)
    obtain ⟨st, hst⟩ : ∃ st, sts[i]? = some st := ⟨sts[i]'(by omega), List.getElem?_eq_getElem _⟩
    have axs : atI (sts.map V.int) (0 + (i : Int)) = some (.int st) := by rw [Int.zero_add]; exact atI_nat (by rw [List.getElem?_map, hst]; rfl)
    have fin : ∀ z : Int, behAt rs sts m.2 i = z → ∃ p : Option V, [some (V.ref rl), some (.ref a), some (.ref ma), some (.ref af), some (V.int (0 + (i : Int)))] = [some (.ref rl), some (.ref a), some (.ref ma), some (.ref af), p] ∧ Same H (upd H' af (.lst (((List.range i).map (behAt rs sts m.2)).map V.int ++ [.int z]))) ∧ (upd H' af (.lst (((List.range i).map (behAt rs sts m.2)).map V.int ++ [.int z]))) af = some (.lst (((List.range (i + 1)).map (behAt rs sts m.2)).map V.int)) := fun z e =>
      ⟨_, rfl, Same.own sm haf, by rw [upd_same, List.range_succ, List.map_append, List.map_append, ← e]; rfl⟩
    have small : (((List.range i).map (behAt rs sts m.2)).map V.int).length < sizeLine := by
      rw [List.length_map, List.length_map, List.length_range]; exact small1000 (by omega)
    have axm : ∀ o, m.2[i]? = some o → atI (m.2.map optV) (0 + (i : Int)) = some (optV o) := fun o ho => by rw [Int.zero_add]; exact atI_nat (by rw [List.getElem?_map, ho]; rfl)
    rcases val i r st hr1 hst with hn | ⟨k, s, hk, hs, es⟩
    · refine ⟨_, rfl, ma, _, _, .ref mb, rfl, rfl, Same.tup sm hma, rfl, _, rfl, mb, _, _, .non, rfl, rfl, Same.tup sm hmb, axm none hn, rfl, _, rfl, iteT ?_⟩
      refine ⟨_, rfl, .inl ⟨rfl, _, SqL.of hf⟩, _, rfl, _, rfl, a, _, _, .int st, rfl, rfl, SqT.of (sm _ _ ha), axs, af, _, _, rfl, rfl, hf, small, fin st ?_⟩
      unfold behAt; rw [hn, hst]; rfl
    · obtain ⟨ra, l, zs, er, h1, h2, h3⟩ := (row.mono sm).ex
      refine ⟨_, rfl, ma, _, _, .ref mb, rfl, rfl, Same.tup sm hma, rfl, _, rfl, mb, _, _, .int (k : Int), rfl, rfl, Same.tup sm hmb, axm _ hk, rfl, _, rfl, ?_⟩
      rw [decide_eq_false (show ¬ V.int (k : Int) = V.non from fun z => by cases z)]
      refine iteF ?_
      have axx : atI xs (0 + (i : Int)) = some (.ref ra) := by rw [Int.zero_add]; exact atI_nat (by rw [List.getElem?_eq_getElem hi, er])
      have kz : k < zs.length := by
        have := (List.getElem?_eq_some_iff.mp hs).1
        rw [h3.length]; exact this
      obtain ⟨s', hs', b, eb, sb⟩ := paired_get h3 (List.getElem?_eq_getElem kz)
      rw [hs] at hs'
      cases hs'
      have axz : atI zs ((k : Nat) : Int) = some (.ref b) := atI_nat (by rw [List.getElem?_eq_getElem kz, eb])
      refine ⟨_, rfl, .inl ⟨rfl, _, SqL.of hf⟩, _, rfl, _, rfl, rl, xs, _, .ref ra, rfl, rfl, SqL.of (sm _ _ hx), axx, ra, _, _, .ref l, rfl, rfl, SqT.of h1, rfl, _, rfl, ma, _, _, .ref mb, rfl, rfl, Same.tup sm hma, rfl, _, rfl, mb, _, _, .int (k : Int), rfl, rfl, Same.tup sm hmb, axm _ hk, l, zs, _, .ref b, rfl, rfl, SqL.of h2, axz, b, _, _, .int s.2.2, rfl, rfl, sb, rfl, af, _, _, rfl, rfl, hf, small, fin s.2.2 ?_⟩
      unfold behAt; rw [hk, hr1]
      simp [hs]
  · rintro σ H' ⟨p, rfl, sm, hf⟩
    refine ⟨_, rfl, af, _, rfl, .inl ⟨SqL.of hf, fun t ht => ?_⟩⟩
    exact q (.ref t) _ (sm.trans (Same.new ht)) ⟨t, rfl, (by rw [upd_same, lx]; rfl)⟩
/-! ### _law_walk -/
theorem pickB {g : Ga} {σ : L2.St} {H : Hp} {Q : VK} {sx sp : Nat} {a p : Addr} {xs : List V} {o : HO} (h1 : σ[sx]? = some (some (.ref a))) (h2 : σ[sp]? = some (some (.ref p))) (hs : SqL g.K H a xs) (hp : H p = some o) (po : PoolO o) (ne : a ≠ p) (hl : 0 < xs.length) (hl2 : xs.length ≤ 10000)
    (q : ∀ (d : Nat) v o', xs[d]? = some v → PoolO o' → Q v (upd H p o')) :
    tOp (rIxL g.K) (tVar sx) (tCall (sp_law_draw g) [] E0 (tCons (tVar sp) (tCons (tCB (rLenS g.K) (tCons (tVar sx) tNil)) tNil))) σ H Q := by
  refine ⟨_, h1, _, h2, _, h1, a, xs, rfl, .inl hs, p, o, xs.length, rfl, hp, po, by omega, ?_, fun d o' d0 d1 po' => ?_⟩
  · have : (10000 : Int) ≤ 26 ^ 12 := by decide
    omega
  · obtain ⟨k, rfl⟩ := Int.eq_ofNat_of_zero_le d0
    have hk : k < xs.length := by omega
    exact ⟨a, xs, _, xs[k], rfl, rfl, sqL_upd ne hs, atI_nat (List.getElem?_eq_getElem hk), q k _ o' (List.getElem?_eq_getElem hk) po'⟩
structure StandI (rs : List Rw) (sts : List Int) : Prop where
  len : sts.length = rs.length
  st : Stand rs (sts.map some)
theorem stand_start (rs : List Rw) : StandI rs (rs.map (·.1)) := ⟨by rw [List.length_map], fun i r hr => ⟨r.1, by rw [List.getElem?_map, List.getElem?_map, hr]; rfl, mem_reachL.mpr .base⟩⟩
theorem stand_behind {rs : List Rw} {sts : List Int} {line : List (Option Int)} (h : StandI rs sts) (v : ValidL rs sts line) : StandI rs (behindOf rs sts line) := by
  refine ⟨by unfold behindOf; rw [List.length_map, List.length_range], fun i r hr => ⟨behAt rs sts line i, ?_, ?_⟩⟩
  · have il := (List.getElem?_eq_some_iff.mp hr).1
    unfold behindOf
    rw [List.getElem?_map, List.getElem?_map, List.getElem?_range il]; rfl
  · obtain ⟨z, hz, m⟩ := h.st i r hr
    obtain ⟨st, hst, e⟩ : ∃ st, sts[i]? = some st ∧ some st = some z := by
      rw [List.getElem?_map] at hz
      cases e : sts[i]? with
      | none => rw [e] at hz; cases hz
      | some st => rw [e] at hz; exact ⟨st, rfl, by simpa using hz⟩
    cases e
    rcases v i r z hr hst with hn | ⟨k, s, hk, hs, es⟩
    · unfold behAt; rw [hn, hst]; exact m
    · have e : behAt rs sts line i = s.2.2 := by unfold behAt; rw [hk, hr]; simp [hs]
      rw [e]
      have sm : s ∈ r.2 := List.mem_of_getElem? hs
      exact mem_reachL.mpr (.step (x := z) (w := s.2.1) (mem_reachL.mp m) (by rw [← es]; exact sm))
structure WalkOk (rs : List Rw) (ps : List (List Int)) (ms : List Move) : Prop where
  len : ps.length = ms.length + 1
  st : ∀ p ∈ ps, StandI rs p
  mv : ∀ (k : Nat) m p, ms[k]? = some m → ps[k]? = some p → m ∈ movesOf rs p
  hd : ps[0]? = some (rs.map (·.1))
  nx : ∀ (k : Nat) m p, ms[k]? = some m → ps[k]? = some p → ps[k + 1]? = some (behindOf rs p m.2)
theorem WalkOk.snoc {rs : List Rw} {ps : List (List Int)} {ms : List Move} {p : List Int} {m : Move} (h : WalkOk rs ps ms) (hp : ps.getLast? = some p) (hm : m ∈ movesOf rs p) : WalkOk rs (ps ++ [behindOf rs p m.2]) (ms ++ [m]) := by
  have pin : p ∈ ps := List.mem_of_getLast? hp
  have sp := h.st p pin
  have hl := h.len
  refine ⟨by simp [hl], fun p' hp' => ?_, fun k m' p' hk hk' => ?_, by rw [List.getElem?_append_left (by omega)]; exact h.hd, fun k m' p' hk hk' => ?_⟩
  · rcases List.mem_append.mp hp' with z | z
    · exact h.st p' z
    · rw [List.mem_singleton.mp z]; exact stand_behind sp (valid_of hm sp.len).2
  · by_cases c : k < ms.length
    · rw [List.getElem?_append_left c] at hk
      rw [List.getElem?_append_left (by omega)] at hk'
      exact h.mv k m' p' hk hk'
    · have ek : k = ms.length := by
        have := (List.getElem?_eq_some_iff.mp hk).1
        simp at this
        omega
      subst ek
      rw [List.getElem?_append_right (Nat.le_refl _), Nat.sub_self] at hk
      rw [List.getElem?_append_left (by omega)] at hk'
      rw [List.getLast?_eq_getElem?, hl, Nat.add_sub_cancel] at hp
      rw [hp] at hk'
      cases hk'
      have em : m = m' := by simpa using hk
      rw [← em]; exact hm
  · by_cases c : k < ms.length
    · rw [List.getElem?_append_left c] at hk
      rw [List.getElem?_append_left (by omega)] at hk'
      rw [List.getElem?_append_left (by omega)]
      exact h.nx k m' p' hk hk'
    · have ek : k = ms.length := by
        have := (List.getElem?_eq_some_iff.mp hk).1
        simp at this
        omega
      subst ek
      rw [List.getElem?_append_right (Nat.le_refl _), Nat.sub_self] at hk
      rw [List.getElem?_append_left (by omega)] at hk'
      rw [List.getLast?_eq_getElem?, hl, Nat.add_sub_cancel] at hp
      rw [hp] at hk'
      cases hk'
      have em : m = m' := by simpa using hk
      rw [← em, List.getElem?_append_right (by omega), hl, Nat.sub_self]; rfl
def sp_law_walk (g : Ga) : Sp := fun vs H Q _ => ∃ (rl cl : Addr) (rs : List Rw) (ns : List Int), vs = [.ref rl, .ref cl] ∧ RowsAt g H rl rs ∧ SqL g.K H cl (ns.map V.int) ∧ ns.length ≤ 1000 ∧ SmallR rs ∧ (∀ r ∈ rs, r.2.length ≤ 24) ∧
  ∀ (t rt pl : Addr) (us xs : List V) (ms : List Move) (ps : List (List Int)) (H' : Hp), Same H H' → H' t = some (.tup [.ref rt, .ref pl]) → SqT g.K H' rt us → Paired (MoveAt g.K H') us ms → H' pl = some (.lst xs) → Paired (StAt g.K H') xs ps → WalkOk rs ps ms → ms.length ≤ 3 * ns.length → Q (.ref t) H'
def t_lw_3 (g : Ga) : TS := (tSeq (tAsg (tCall (sp_law_moves g) [] E0 (tCons (tVar 0) (tCons (tVar 2) tNil))) (gName 8)) (tIfS (tTest (tOp rGt (tCB (rLenS g.K) (tCons (tVar 8) tNil)) (tC (.int 0)))) (tSeq (tAsg (tOp (rIxL g.K) (tVar 8) (tCall (sp_law_draw g) [] E0 (tCons (tVar 6) (tCons (tCB (rLenS g.K) (tCons (tVar 8) tNil)) tNil)))) (gName 9)) (tSeq (tAsg (tOp (rCatA g.K) (tVar 3) (tTup (tCons (tVar 9) tNil))) (gName 3)) (tSeq (tAsg (tCall (sp_law_behind g) [] E0 (tCons (tVar 0) (tCons (tVar 2) (tCons (tVar 9) tNil)))) (gName 2)) (tDrop (tBM g.K "list" rApp (tVar 4) (tCons (tVar 2) tNil)))))) tNext))
def t_lw_2 (g : Ga) : TS := (tFor (iRng1 (tCons (tOp rAdd (tC (.int 1)) (tCall (sp_law_draw g) [] E0 (tCons (tVar 6) (tCons (tC (.int 3)) tNil)))) tNil)) (gName 7) (t_lw_3 g))
def t_lw_1 (g : Ga) : TS := (tSeq (tFor (iList g.K (tVar 1)) (gName 5) (tSeq (tAsg (tCall (sp_law_pool g) [] E0 (tCons (tVar 5) tNil)) (gName 6)) (t_lw_2 g))) (tRet (tTup (tCons (tVar 3) (tCons (tVar 4) tNil)))))
def t_law_walk (g : Ga) : TS := (tSeq (tAsg (tCall (sp_law_start g) [] E0 (tCons (tVar 0) tNil)) (gName 2)) (tSeq (tAsg (tTup tNil) (gName 3)) (tSeq (tAsg (tLst (tCons (tVar 2) tNil)) (gName 4)) (t_lw_1 g))))
end Sd
namespace Sd
open PySem PySem.Spec PyProof.Rows L2
/-! ### the walk goes on -/
structure WalkAt (g : Ga) (H0 H : Hp) (rs : List Rw) (pl : Addr) (u : V) (rt : Addr) (ms : List Move) (ps : List (List Int)) : Prop where
  sm : Same H0 H
  ex : ∃ (p : List Int) (us xs : List V), StAt g.K H u p ∧ ps.getLast? = some p ∧ SqT g.K H rt us ∧ Paired (MoveAt g.K H) us ms ∧ H pl = some (.lst xs) ∧ Paired (StAt g.K H) xs ps
  ok : WalkOk rs ps ms
theorem WalkAt.mono {g : Ga} {H0 H H' : Hp} {rs : List Rw} {pl rt : Addr} {u : V} {ms : List Move} {ps : List (List Int)} (s : Same H H') (h : WalkAt g H0 H rs pl u rt ms ps) : WalkAt g H0 H' rs pl u rt ms ps := by
  obtain ⟨p, us, xs, h1, h2, h3, h4, h5, h6⟩ := h.ex
  exact ⟨h.sm.trans s, ⟨p, us, xs, h1.mono s, h2, Same.tup s h3, paired_mono (fun _ _ z => z.mono s) h4, s _ _ h5, paired_mono (fun _ _ z => z.mono s) h6⟩, h.ok⟩
theorem WalkAt.pool {g : Ga} {H0 H : Hp} {rs : List Rw} {pl rt p : Addr} {u : V} {ms : List Move} {ps : List (List Int)} {o : HO} {ys : List V} (np : H0 p = none) (hp : H p = some (.lst ys)) (ne : p ≠ pl) (h : WalkAt g H0 H rs pl u rt ms ps) : WalkAt g H0 (upd H p o) rs pl u rt ms ps := by
  obtain ⟨q, us, xs, h1, h2, h3, h4, h5, h6⟩ := h.ex
  exact ⟨Same.own h.sm np, ⟨q, us, xs, h1.upd hp, h2, sqT_upd hp lst_nt.1 lst_nt.2 h3, paired_mono (fun _ _ z => z.upd hp) h4, by rw [upd_ne ne.symm]; exact h5, paired_mono (fun _ _ z => z.upd hp) h6⟩, h.ok⟩
theorem pool_lst {o : HO} (h : PoolO o) : ∃ ys, o = .lst ys := let ⟨a, r, n, e, _⟩ := h; ⟨_, e⟩
theorem movesOf_len {rs : List Rw} {sts : List Int} (sm : SmallR rs) : (movesOf rs sts).length ≤ 3072 := by
  unfold movesOf
  have h1 := flat_len (sts := sts) sm (sysWords rs)
  have h2 := sm.w12
  omega
theorem pure_lw_3 {g : Ga} {D : Ends} {H0 H : Hp} {p5 p7 p8 p9 : Option V} {rl cl pl rt pp : Addr} {u : V} {o : HO} {rs : List Rw} {ms : List Move} {ps : List (List Int)} (hr : RowsAt g H0 rl rs) (sm : SmallR rs) (r24 : ∀ r ∈ rs, r.2.length ≤ 24) (npl : H0 pl = none) (npp : H0 pp = none) (ne : pp ≠ pl) (hp : H pp = some o) (po : PoolO o) (h : WalkAt g H0 H rs pl u rt ms ps) (few : ms.length ≤ 5000)
    (q : ∀ u' rt' ms' ps' o' H' p8 p9, WalkAt g H0 H' rs pl u' rt' ms' ps' → ms'.length ≤ ms.length + 1 → H' pp = some o' → PoolO o' → D.nx [some (.ref rl), some (.ref cl), some u', some (.ref rt'), some (.ref pl), p5, some (.ref pp), p7, p8, p9] H') :
    t_lw_3 g D [some (.ref rl), some (.ref cl), some u, some (.ref rt), some (.ref pl), p5, some (.ref pp), p7, p8, p9] H := by
  have n4 := sm.n4
  obtain ⟨p, us, xs, ⟨sb, rfl, hsb⟩, h2, h3, h4, h5, h6⟩ := h.ex
  have pin : p ∈ ps := List.mem_of_getLast? h2
  have sp := h.ok.st p pin
  have ml := movesOf_len (sts := p) sm
  refine ⟨_, rfl, _, rfl, rl, sb, rs, p, rfl, RowsAt.mono h.sm hr, SqT.of hsb, sp.len, sm, r24, fun mv H1 s1 nmv hmv => ?_⟩
  obtain ⟨vs, hv1, hv2⟩ := hmv.ex
  have lv := hv2.length
  have h1 := h.mono s1
  have hp1 := s1 _ _ hp
  refine ⟨_, rfl, mv, vs, rfl, .inl (SqL.of hv1), _, _, rfl, rfl, _, rfl, ite2 (fun c => ?_) fun c => ?_⟩
  · have c0 : (0 : Int) < (vs.length : Int) := of_decide_eq_true c
    have nmp : mv ≠ pp := fun z => by rw [z] at nmv; rw [nmv] at hp; cases hp
    refine s_asg (pickB rfl rfl (SqL.of hv1) hp1 po nmp (by omega) (by omega) fun k v o' hk po' => ?_)
    obtain ⟨m, hm, hmv2⟩ := paired_get hv2 hk
    obtain ⟨ys, rfl⟩ := pool_lst po
    have wk := h1.pool (o := o') npp hp1 ne
    have hmu := hmv2.upd (u := o') hp1
    generalize hH2 : upd H1 pp o' = H2 at wk hmu
    have hp2 : H2 pp = some o' := by rw [← hH2]; exact upd_same
    obtain ⟨p', us2, xs2, ⟨sb', eb, hsb'⟩, h22, h32, h42, h52, h62⟩ := wk.ex
    rw [h2] at h22
    cases h22
    obtain rfl : sb = sb' := by injection eb
    have mm : m ∈ movesOf rs p := List.mem_of_getElem? hm
    obtain ⟨vl, val⟩ := valid_of mm sp.len
    have lu := h42.length
    refine ⟨_, rfl, _, rfl, by show 1 ≤ sizeLine; decide, fun t0 ht0 => ?_⟩
    have s3 : Same H2 (upd H2 t0 (.tup [v])) := Same.new ht0
    have go : ∀ (rt' : Addr) (H3 : Hp), Same H2 H3 → SqT g.K H3 rt' (us2 ++ [v]) → (tSeq (tAsg (tCall (sp_law_behind g) [] E0 (tCons (tVar 0) (tCons (tVar 2) (tCons (tVar 9) tNil)))) (gName 2)) (tDrop (tBM g.K "list" rApp (tVar 4) (tCons (tVar 2) tNil)))) D [some (.ref rl), some (.ref cl), some (.ref sb), some (.ref rt'), some (.ref pl), p5, some (.ref pp), p7, some (.ref mv), some v] H3 := fun rt' H3 s23 hrt => by
      refine ⟨_, rfl, _, rfl, _, rfl, rl, .ref sb, v, rs, p, m, rfl, RowsAt.mono (wk.sm.trans s23) hr, ⟨sb, rfl, s23 _ _ hsb'⟩, hmu.mono s23, sp.len, vl, val, by omega, fun u' H4 s4 hu' => ?_⟩
      have s24 := s23.trans s4
      have h5' := s24 _ _ h52
      have lp := h62.length
      have ol := wk.ok.len
      refine ⟨_, rfl, .inl ⟨rfl, _, SqL.of h5'⟩, _, rfl, pl, _, _, rfl, rfl, h5', big_line (by omega), ?_⟩
      refine q u' rt' (ms ++ [m]) (ps ++ [behindOf rs p m.2]) o' _ _ _ ⟨Same.own (wk.sm.trans s24) npl, ⟨behindOf rs p m.2, us2 ++ [v], xs2 ++ [u'], hu'.upd h5', by simp, sqT_upd h5' lst_nt.1 lst_nt.2 (Same.tup s4 hrt), paired_app (paired_mono (fun _ _ z => (z.mono s24).upd h5') h42) (.cons ((hmu.mono s24).upd h5') .nil), upd_same, paired_app (paired_mono (fun _ _ z => (z.mono s24).upd h5') h62) (.cons (hu'.upd h5') .nil)⟩, wk.ok.snoc h2 mm⟩ (by simp) ?_ po'
      rw [upd_ne ne]; exact s24 _ _ hp2
    refine ⟨rt, t0, us2, [v], rfl, rfl, Same.tup s3 h32, SqT.of upd_same, ?_, fun e => ?_, fun _ e => (by cases e), fun _ _ t ht => ?_⟩
    · exact Nat.le_of_lt (big_line (by show us2.length + 1 ≤ 10000; omega))
    · subst e
      exact go t0 _ s3 (SqT.of upd_same)
    · exact go t _ (s3.trans (Same.new ht)) (SqT.of upd_same)
  · exact q _ rt ms ps o H1 _ _ h1 (by omega) hp1 po
theorem pure_law_walk {g : Ga} {vs : List V} {H : Hp} {Q : VK} {E : XK} {N : List Str} (hN : N.length = 10) (h : sp_law_walk g vs H Q E) : t_law_walk g (endsQ Q) (L2.start N vs) H := by
  obtain ⟨rl, cl, rs, ns, rfl, hr, hc, few, sm, r24, q⟩ := h
  have e0 : L2.start N [.ref rl, .ref cl] = [some (.ref rl), some (.ref cl), none, none, none, none, none, none, none, none] := by unfold L2.start; rw [hN]; rfl
  rw [e0]
  have n4 := sm.n4
  refine ⟨_, rfl, rl, rs, rfl, hr, by omega, fun u H1 s1 hu => ⟨by show 0 ≤ sizeLine; decide, fun rt hrt => ⟨_, rfl, by show 1 ≤ sizeLine; decide, fun pl hpl => ?_⟩⟩⟩
  have s2 : Same H1 (upd H1 rt (.tup [])) := Same.new hrt
  have s3 : Same H1 (upd (upd H1 rt (.tup [])) pl (.lst [u])) := s2.trans (Same.new hpl)
  have npl : H pl = none := (s1.trans s2).free hpl
  have w0 : WalkAt g H (upd (upd H1 rt (.tup [])) pl (.lst [u])) rs pl u rt [] [rs.map (·.1)] := ⟨s1.trans s3, ⟨rs.map (·.1), [], [u], hu.mono s3, rfl, SqT.of ((Same.new hpl : Same (upd H1 rt (.tup [])) _) _ _ upd_same), .nil, upd_same, .cons (hu.mono s3) .nil⟩, ⟨rfl, fun p hp => by rw [List.mem_singleton.mp hp]; exact stand_start rs, (fun k m p hk => by simp at hk), rfl, fun k m p hk => by simp at hk⟩⟩
  show t_lw_1 g (endsQ Q) [some (.ref rl), some (.ref cl), some u, some (.ref rt), some (.ref pl), none, none, none, none, none] _
  refine ⟨_, rfl, cl, rfl, ⟨_, w0.sm.seq hc⟩, for_list (K := g.K) (a := cl) (xs := ns.map V.int) (fun i σ H' => ∃ (u : V) (rt : Addr) (ms : List Move) (ps : List (List Int)) (p5 p6 p7 p8 p9 : Option V), σ = [some (.ref rl), some (.ref cl), some u, some (.ref rt), some (.ref pl), p5, p6, p7, p8, p9] ∧ WalkAt g H H' rs pl u rt ms ps ∧ ms.length ≤ 3 * i) ⟨u, rt, [], _, _, _, _, _, _, rfl, w0, by simp⟩ (fun i σ H' _ ⟨_, _, _, _, _, _, _, _, _, _, w, _⟩ => w.sm.seq hc) ?_ ?_⟩
  · rintro i x σ H' hx ⟨u, rt, ms, ps, p5, p6, p7, p8, p9, rfl, wk, ml⟩
    obtain ⟨c, hcx, rfl⟩ := map_get hx
    have ii : i < ns.length := (List.getElem?_eq_some_iff.mp hcx).1
    refine ⟨_, rfl, c, rfl, fun pp o po npp => ?_⟩
    have s4 : Same H' (upd H' pp o) := Same.new npp
    have wk2 := wk.mono s4
    have npp0 : H pp = none := wk.sm.free npp
    obtain ⟨_, _, xs0, _, _, _, _, hpl0, _⟩ := wk.ex
    have ne : pp ≠ pl := (ne_of_none hpl0 npp).symm
    show t_lw_2 g _ [some (.ref rl), some (.ref cl), some u, some (.ref rt), some (.ref pl), some (.int c), some (.ref pp), p7, p8, p9] (upd H' pp o)
    refine ⟨_, rfl, pp, o, 3, rfl, upd_same, po, by decide, by decide, fun d o1 d0 d1 po1 => ?_⟩
    obtain ⟨d, rfl⟩ := Int.eq_ofNat_of_zero_le d0
    rw [upd_upd]
    have wk3 : WalkAt g H (upd H' pp o1) rs pl u rt ms ps := wk.mono (Same.new npp)
    refine ⟨_, _, rfl, rfl, ((1 + d : Nat) : Int), by show [V.int ((1 : Int) + (d : Int))] = _; rw [show (1 : Int) + (d : Int) = ((1 + d : Nat) : Int) by omega], by omega, by omega, for_range (n := 1 + d) (fun k σ H2 => ∃ (u : V) (rt : Addr) (ms2 : List Move) (ps : List (List Int)) (o2 : HO) (p7 p8 p9 : Option V), σ = [some (.ref rl), some (.ref cl), some u, some (.ref rt), some (.ref pl), some (.int c), some (.ref pp), p7, p8, p9] ∧ WalkAt g H H2 rs pl u rt ms2 ps ∧ ms2.length ≤ ms.length + k ∧ H2 pp = some o2 ∧ PoolO o2) ⟨u, rt, ms, ps, o1, _, _, _, rfl, wk3, Nat.le_refl _, upd_same, po1⟩ ?_ ?_⟩
    · rintro k σ H2 hk ⟨u2, rt2, ms2, ps2, o2, q7, q8, q9, rfl, wk4, ml4, hp4, po4⟩
      exact pure_lw_3 hr sm r24 npl npp0 ne hp4 po4 wk4 (by omega) fun u' rt' ms' ps' o' H3 q8 q9 w' ml' hp' po' => ⟨u', rt', ms', ps', o', _, _, _, rfl, w', by omega, hp', po'⟩
    · rintro σ H2 ⟨u2, rt2, ms2, ps2, o2, q7, q8, q9, rfl, wk4, ml4, hp4, po4⟩
      exact ⟨u2, rt2, ms2, ps2, _, _, _, _, _, rfl, wk4, by omega⟩
  · rintro σ H' ⟨u, rt, ms, ps, p5, p6, p7, p8, p9, rfl, wk, ml⟩
    rw [List.length_map] at ml
    obtain ⟨p, us, xs, h1, h2, h3, h4, h5, h6⟩ := wk.ex
    refine ⟨_, rfl, _, rfl, by show 2 ≤ sizeLine; decide, fun t ht => ?_⟩
    have s5 : Same H' (upd H' t (.tup [.ref rt, .ref pl])) := Same.new ht
    exact q t rt pl us xs ms ps _ (wk.sm.trans s5) upd_same (Same.tup s5 h3) (paired_mono (fun _ _ z => z.mono s5) h4) (s5 _ _ h5) (paired_mono (fun _ _ z => z.mono s5) h6) wk.ok ml
end Sd
namespace Sd
open PySem PySem.Spec PyProof.Rows L2
/-! ### moves as data -/
def optD : Option Int → PyData
  | none => .none
  | some i => .int i
def moveD (m : Move) : PyData := .tuple [.str m.1, .tuple (m.2.map optD)]
theorem dp_opts {K : PySem.W.Frag} {H : Hp} : ∀ l : List (Option Int), DpAll K H (l.map optV) (l.map optD)
  | [] => .nil
  | none :: l => .cons .non (dp_opts l)
  | some i :: l => .cons (.int i) (dp_opts l)
theorem dp_move {K : PySem.W.Frag} {H : Hp} {v : V} {m : Move} (h : MoveAt K H v m) : Dp K H v (moveD m) := by
  obtain ⟨a, b, rfl, h1, h2⟩ := h
  exact .tup h1 (.cons (.str _) (.cons (.tup h2 (dp_opts _)) .nil))
theorem dp_moves {K : PySem.W.Frag} {H : Hp} : ∀ {xs : List V} {ms : List Move}, Paired (MoveAt K H) xs ms → DpAll K H xs (ms.map moveD)
  | _, _, .nil => .nil
  | _, _, .cons r t => .cons (dp_move r) (dp_moves t)
theorem opts_lay : ∀ l : List (Option Int), PyData.canLayAll0 (l.map optD) = true ∧ PyData.depthAll (l.map optD) = 0
  | [] => ⟨rfl, rfl⟩
  | o :: l => by
    have ih := opts_lay l
    rw [List.map_cons]
    cases o <;> simp [optD, PyData.canLayAll0, PyData.canLay0, PyData.depthAll, PyData.depth, ih.1, ih.2]
theorem move_lay {m : Move} (h : IsName m.1) : (moveD m).canLay0 = true ∧ (moveD m).depth = 2 := by
  have ih := opts_lay m.2
  simp [moveD, PyData.canLayAll0, PyData.canLay0, PyData.depthAll, PyData.depth, ih.1, ih.2, name_strOk h]
theorem moves_lay : ∀ ms : List Move, (∀ m ∈ ms, IsName m.1) → PyData.canLayAll0 (ms.map moveD) = true ∧ PyData.depthAll (ms.map moveD) ≤ 2
  | [], _ => ⟨rfl, Nat.zero_le _⟩
  | m :: ms, h => by
    have ih := moves_lay ms fun x hx => h x (List.mem_cons_of_mem _ hx)
    have h1 := move_lay (h m List.mem_cons_self)
    rw [List.map_cons]
    refine ⟨by simp only [PyData.canLayAll0, ih.1, h1.1]; rfl, ?_⟩
    simp only [PyData.depthAll]
    have := ih.2
    omega
theorem move_shaped {m : Move} (h : IsName m.1) : SeqAt.shaped (moveD m) = true := by
  have := move_lay h
  unfold SeqAt.shaped
  rw [this.1, this.2]; rfl
theorem moves_shaped {ms : List Move} (h : ∀ m ∈ ms, IsName m.1) : SeqAt.shaped (.list (ms.map moveD)) = true := by
  have := moves_lay ms h
  unfold SeqAt.shaped
  rw [Bool.and_eq_true]
  exact ⟨by simp only [PyData.canLay0]; exact this.1, decide_eq_true (by simp only [PyData.depth]; omega)⟩
theorem opts_eqv : ∀ l : List (Option Int), PyData.eqvAll (l.map optD) (l.map optD) = true
  | [] => rfl
  | o :: l => by
    have ih := opts_eqv l
    rw [List.map_cons]
    cases o <;> simp [optD, PyData.eqvAll, PyData.eqv, ih]
theorem move_eqv (m : Move) : PyData.eqv (moveD m) (moveD m) = true := by
  simp [moveD, PyData.eqv, PyData.eqvAll, opts_eqv]
theorem any_move {m : Move} {ms : List Move} (h : m ∈ ms) : (ms.map moveD).any (fun z => z.eqv (moveD m)) = true := by
  rw [List.any_eq_true]
  exact ⟨moveD m, List.mem_map.mpr ⟨m, h, rfl⟩, move_eqv m⟩
theorem short_opts : ∀ l : List (Option Int), shortAll (l.map optD) = true
  | [] => rfl
  | o :: l => by
    have ih := short_opts l
    rw [List.map_cons]
    cases o <;> simp [optD, shortAll, shortD, ih]
theorem short_moves : ∀ ms : List Move, (∀ m ∈ ms, m.2.length ≤ 100) → shortAll (ms.map moveD) = true
  | [], _ => rfl
  | m :: ms, h => by
    have ih := short_moves ms fun x hx => h x (List.mem_cons_of_mem _ hx)
    have h1 := h m List.mem_cons_self
    rw [List.map_cons]
    unfold shortAll
    rw [ih, Bool.and_true]
    simp [moveD, shortD, shortAll, short_opts]
    omega
def stD (s : List Int) : PyData := .tuple (s.map .int)
theorem dp_st {K : PySem.W.Frag} {H : Hp} {v : V} {s : List Int} (h : StAt K H v s) : Dp K H v (stD s) := by
  obtain ⟨b, rfl, h⟩ := h
  exact .tup (SqT.of h) (dp_ints s)
theorem dp_sts {K : PySem.W.Frag} {H : Hp} : ∀ {xs : List V} {ps : List (List Int)}, Paired (StAt K H) xs ps → DpAll K H xs (ps.map stD)
  | _, _, .nil => .nil
  | _, _, .cons r t => .cons (dp_st r) (dp_sts t)
theorem ints_lay : ∀ l : List Int, PyData.canLayAll0 (l.map .int) = true ∧ PyData.depthAll (l.map .int) = 0
  | [] => ⟨rfl, rfl⟩
  | o :: l => by
    have ih := ints_lay l
    rw [List.map_cons]
    simp [PyData.canLayAll0, PyData.canLay0, PyData.depthAll, PyData.depth, ih.1, ih.2]
theorem st_lay (s : List Int) : (stD s).canLay0 = true ∧ (stD s).depth = 1 := by
  have ih := ints_lay s
  simp [stD, PyData.canLay0, PyData.depth, ih.1, ih.2]
theorem st_shaped (s : List Int) : SeqAt.shaped (stD s) = true := by
  unfold SeqAt.shaped
  rw [(st_lay s).1, (st_lay s).2]; rfl
theorem sts_lay : ∀ ps : List (List Int), PyData.canLayAll0 (ps.map stD) = true ∧ PyData.depthAll (ps.map stD) ≤ 1
  | [] => ⟨rfl, Nat.zero_le _⟩
  | p :: ps => by
    have ih := sts_lay ps
    have h1 := st_lay p
    rw [List.map_cons]
    refine ⟨by simp only [PyData.canLayAll0, ih.1, h1.1]; rfl, ?_⟩
    simp only [PyData.depthAll]
    have := ih.2
    omega
theorem sts_shaped (ps : List (List Int)) : SeqAt.shaped (.list (ps.map stD)) = true := by
  have := sts_lay ps
  unfold SeqAt.shaped
  rw [Bool.and_eq_true]
  exact ⟨by simp only [PyData.canLay0]; exact this.1, decide_eq_true (by simp only [PyData.depth]; omega)⟩
/-! ### drawn rows are small -/
theorem leaving_snoc (L : List Step) (t : Step) (s : Int) : leavingN (L ++ [t]) s = leavingN L s + if t.1 = s then 1 else 0 := by
  unfold leavingN
  rw [List.filter_append, List.length_append]
  by_cases h : t.1 = s <;> simp [h]
theorem firstBad_leaving {s : Int} : ∀ (L kept : List Step) (i : Nat), firstBad (L.map some) kept i = none → leavingN kept s ≤ 4 → leavingN (kept ++ L) s ≤ 4
  | [], kept, _, _, h => by rw [List.append_nil]; exact h
  | t :: L, kept, i, hb, h => by
    rw [List.map_cons] at hb
    unfold firstBad at hb
    split at hb
    · cases hb
    · split at hb
      · cases hb
      · rename_i c1 c2
        have := firstBad_leaving L (kept ++ [t]) (i + 1) hb (by
          rw [leaving_snoc]
          by_cases e : t.1 = s
          · rw [if_pos e]; rw [e] at c2; omega
          · rw [if_neg e]; exact h)
        simpa using this
theorem hits_le (st : Int) (w : Str) (L : List Step) : ∀ i : Nat, ((List.range i).filter fun k => (L[k]?.map (hit st w)).getD false).length ≤ leavingN (L.take i) st
  | 0 => by simp
  | i + 1 => by
    have ih := hits_le st w L i
    cases e : L[i]? with
    | none =>
      have ll : L.length ≤ i := List.getElem?_eq_none_iff.mp e
      rw [List.range_succ, List.filter_append, List.length_append]
      have : ([i].filter fun k => (L[k]?.map (hit st w)).getD false) = [] := by rw [List.filter_cons, e]; rfl
      rw [this, List.take_of_length_le (by omega : L.length ≤ i + 1)]
      rw [List.take_of_length_le ll] at ih
      exact ih
    | some s =>
      rw [hits_snoc e, List.take_add_one, e, Option.toList_some, leaving_snoc, List.length_append]
      by_cases c : hit st w s = true
      · have c1 : s.1 = st := of_decide_eq_true (Bool.and_eq_true_iff.mp c).1
        rw [if_pos c, if_pos c1]
        show _ + 1 ≤ _ + 1
        omega
      · rw [if_neg c]
        show _ + 0 ≤ _
        omega
theorem numbers_le {zs : List Str} {ms : Nat} {r : Rw} (h : GoodRow zs ms r) (st : Int) (w : Str) : (numbersOf r.2 st w).length ≤ 4 := by
  unfold numbersOf
  split
  · rw [List.length_map]
    have h1 := hits_le st w r.2 r.2.length
    have h2 := firstBad_leaving (s := st) r.2 [] 0 h.fb (by simp [leavingN])
    rw [List.take_length] at h1
    rw [List.nil_append] at h2
    exact Nat.le_trans h1 h2
  · simp
theorem DrawnRows.small {zs : List Str} {mh mw ms : Nat} {rs : List Rw} {ks : List Int} (h : DrawnRows zs mh mw ms rs ks) (h4 : mh ≤ 4) (w12 : mw ≤ 12) : SmallR rs := by
  have h1 := sysWords_le h.ok
  have h2 := h.zl
  have h3 := h.n2
  exact ⟨by omega, by omega, fun r hr st w => numbers_le (h.ok r hr) st w, fun r hr => by have := (h.ok r hr).l2; omega⟩
theorem DrawnRows.names {zs : List Str} {mh mw ms : Nat} {rs : List Rw} {ks : List Int} (h : DrawnRows zs mh mw ms rs ks) {w : Str} (hw : w ∈ sysWords rs) : IsName w := by
  obtain ⟨r, hr, hz⟩ := List.mem_flatMap.mp (mem_uniq.mp hw)
  obtain ⟨ss, dr, _⟩ := (h.ok r hr).ex
  obtain ⟨s, hs, rfl⟩ := List.mem_map.mp (mem_uniq.mp hz)
  exact h.zn _ (dr.wd s hs)
theorem moves_word {rs : List Rw} {sts : List Int} {m : Move} (h : m ∈ movesOf rs sts) : m.1 ∈ sysWords rs := by
  obtain ⟨w, hw, hm⟩ := List.mem_flatMap.mp h
  obtain ⟨l, hl, rfl⟩ := List.mem_map.mp hm
  exact hw
/-- system.moves(states) -/
theorem meth_moves {g : Ga} {σ : L2.St} {H : Hp} {Q : VK} {E : XK} {i : Nat} {tv : TE} {x : Addr} {v : V} {sts ds : List Int} {rs : List Rw} (h1 : σ[i]? = some (some (.ref x))) (hx : SysAt g H x rs ds) (ht : ∀ Q : VK, Q v H → tv σ H Q) (hv : StAt g.K H v sts) (st : StandI rs sts) (sm : SmallR rs) (q : ∀ D H', Same H H' → H D = none → MovesAt g H' D (movesOf rs sts) → Q (.ref D) H') :
    tMeth g.cSystem "moves" (sp_System_moves g) [] E (tVar i) (tCons tv tNil) σ H Q := by
  obtain ⟨b, rfl, hb⟩ := hv
  obtain ⟨dx, h, d, w, s, xs, g1, g2⟩ := hx.ex
  have n1 : (("moves" : Str) == "hands") = false := by decide +kernel
  have n2 : (("moves" : Str) == "diligent") = false := by decide +kernel
  have n3 : (("moves" : Str) == "words") = false := by decide +kernel
  have n4 : (("moves" : Str) == "start") = false := by decide +kernel
  refine ⟨_, h1, x, dx, _, rfl, g1, by simp [sysF, List.lookup, n1, n2, n3, n4], ht _ ?_⟩
  refine ⟨x, .ref b, rs, ds, rfl, hx, sm, .inr ⟨b, sts.map V.int, rfl, SqT.of hb, .inr ⟨by rw [List.length_map]; exact st.len, sts.map some, items_int sts, fun n => absurd st.st n, fun sts' _ e D H' s' nD hD => ?_⟩⟩⟩
  have e' : sts = sts' := (List.map_inj_right (f := some) (fun a b z => Option.some.inj z)).mp e
  subst e'
  exact q D H' s' nD hD
def sp_k07_law (g : Ga) : Sp := fun vs H Q _ => ∃ (a : Addr) (ns : List Int), vs = [.ref a] ∧ SqL g.K H a (ns.map V.int) ∧ ns.length ≤ 63 ∧ ∀ H', Q (.bl true) H'
def t_k07_2 (g : Ga) : TS := (tSeq (tFor (iRng1 (tCons (tCB (rLenS g.K) (tCons (tOp (rIxT g.K) (tVar 3) (tC (.int 0))) tNil)) tNil)) (gName 8) (tIfS (tTest (tOp (rNotInD g.K) (tOp (rIxT g.K) (tOp (rIxT g.K) (tVar 3) (tC (.int 0))) (tVar 8)) (tMeth g.cSystem "moves" (sp_System_moves g) [] E0 (tVar 2) (tCons (tOp (rIxL g.K) (tOp (rIxT g.K) (tVar 3) (tC (.int 1))) (tVar 8)) tNil)))) (tRet (tC (.bl false))) tNext)) (tRet (tC (.bl true))))
def t_k07_1 (g : Ga) : TS := (tSeq (tAsg (tLst tNil) (gName 4)) (tSeq (tFor (iList g.K (tOp (rIxT g.K) (tVar 3) (tC (.int 1)))) (gName 5) (tIfS (tTest (tOp (rNotInD g.K) (tVar 5) (tVar 4))) (tSeq (tDrop (tBM g.K "list" rApp (tVar 4) (tCons (tVar 5) tNil))) (tSeq (tAsg (tCall (sp_law_moves g) [] E0 (tCons (tOp (rIxT g.K) (tVar 1) (tC (.int 0))) (tCons (tVar 5) tNil))) (gName 6)) (tSeq (tAsg (tMeth g.cSystem "moves" (sp_System_moves g) [] E0 (tVar 2) (tCons (tVar 5) tNil)) (gName 7)) (tSeq (tIfS (tNot (tB (tCall (sp_law_same 3 g) [] E0 (tCons (tVar 7) (tCons (tVar 6) tNil))))) (tRet (tC (.bl false))) tNext) (tSeq (tDrop (tBM g.K "list" rApp (tVar 7) (tCons (tTup (tCons (tC (.str "a")) (tCons (tTup tNil) tNil))) tNil))) (tSeq (tDrop (tBM0 g.K "list" rReverse (tVar 7))) (tIfS (tNot (tB (tCall (sp_law_same 3 g) [] E0 (tCons (tMeth g.cSystem "moves" (sp_System_moves g) [] E0 (tVar 2) (tCons (tVar 5) tNil)) (tCons (tVar 6) tNil))))) (tRet (tC (.bl false))) tNext))))))) tNext)) (t_k07_2 g)))
def t_k07_law (g : Ga) : TS := (tSeq (tAsg (tCall (sp_law_rows g) [] E0 (tCons (tVar 0) (tCons (tC (.int 3)) (tCons (tC (.int 4)) (tCons (tC (.int 3)) (tCons (tC (.int 6)) tNil)))))) (gName 1)) (tSeq (tAsg (tCall (sp_law_system g) [] E0 (tCons (tOp (rIxT g.K) (tVar 1) (tC (.int 0))) (tCons (tOp (rIxT g.K) (tVar 1) (tC (.int 1))) tNil))) (gName 2)) (tSeq (tAsg (tCall (sp_law_walk g) [] E0 (tCons (tOp (rIxT g.K) (tVar 1) (tC (.int 0))) (tCons (tSl (rSlL g.K) (tVar 0) (tPart (tC (.int 4))) tNoPart) tNil))) (gName 3)) (t_k07_1 g))))
/-- the last loop: each move of the walk is among the moves -/
theorem pure_k07_2 {g : Ga} {H : Hp} {Q : VK} {a b p4 p5 p6 p7 : Option V} {x t rt pl : Addr} {us xs : List V} {ms : List Move} {ps : List (List Int)} {rs : List Rw} {ds : List Int} (hx : SysAt g H x rs ds) (sm : SmallR rs) (nm : ∀ w ∈ sysWords rs, IsName w) (ht : H t = some (.tup [.ref rt, .ref pl])) (hu : SqT g.K H rt us) (hm : Paired (MoveAt g.K H) us ms) (hp : H pl = some (.lst xs)) (hs : Paired (StAt g.K H) xs ps) (wk : WalkOk rs ps ms) (few : ms.length ≤ 1000) (q : ∀ H', Q (.bl true) H') :
    t_k07_2 g (endsQ Q) [a, b, some (.ref x), some (.ref t), p4, p5, p6, p7, none] H := by
  have lu := hm.length
  have lx := hs.length
  have wl := wk.len
  refine ⟨_, rfl, t, _, _, .ref rt, rfl, rfl, SqT.of ht, rfl, rt, us, rfl, .inr hu, _, rfl, by omega, by omega, for_range (n := us.length) (fun i σ H' => ∃ p8 : Option V, σ = [a, b, some (.ref x), some (.ref t), p4, p5, p6, p7, p8] ∧ Same H H') ⟨none, rfl, Same.refl H⟩ ?_ ?_⟩
  · rintro i σ H' hi ⟨p8, rfl, s1⟩
    obtain ⟨m, hm1, mv⟩ := paired_get hm (List.getElem?_eq_getElem hi)
    have ix : i < xs.length := by omega
    obtain ⟨p, hp1, st⟩ := paired_get hs (List.getElem?_eq_getElem ix)
    have sp := wk.st p (List.mem_of_getElem? hp1)
    have mm := wk.mv i m p hm1 hp1
    have au : atI us (0 + (i : Int)) = some us[i] := by rw [Int.zero_add]; exact atI_nat (List.getElem?_eq_getElem hi)
    have ax : atI xs (0 + (i : Int)) = some xs[i] := by rw [Int.zero_add]; exact atI_nat (List.getElem?_eq_getElem ix)
    refine t_test ⟨_, rfl, t, _, _, .ref rt, rfl, rfl, SqT.of (s1 _ _ ht), rfl, _, rfl, rt, us, _, us[i], rfl, rfl, Same.tup s1 hu, au, ?_⟩
    refine meth_moves (v := xs[i]) rfl (hx.mono s1) (fun Q q => ⟨_, rfl, t, _, _, .ref pl, rfl, rfl, SqT.of (s1 _ _ ht), rfl, _, rfl, pl, xs, _, xs[i], rfl, rfl, SqL.of (s1 _ _ hp), ax, q⟩) (st.mono s1) sp sm fun D H2 s2 nD hD => ?_
    obtain ⟨vs, hv1, hv2⟩ := hD.ex
    have s12 := s1.trans s2
    refine ⟨moveD m, (movesOf rs p).map moveD, dp_move (mv.mono s12), .lst (SqL.of hv1) (dp_moves hv2), move_shaped (nm _ (moves_word mm)), moves_shaped fun m' h' => nm _ (moves_word h'), _, rfl, ?_⟩
    rw [any_move mm]
    exact iteF ⟨_, rfl, s12⟩
  · rintro σ H' ⟨p8, rfl, s1⟩
    exact q H'
theorem n_seq {te : TE} {G : TG} {u : TS} {D : Ends} {i : Nat} {v : V} {σ : L2.St} {H : Hp} (h : te (σ.set i (some v)) H fun x H1 => G x (σ.set i (some v)) H1 (u D)) : gName i v σ H (tSeq (tAsg te G) u D) := h
theorem same_data {g : Ga} {H : Hp} {D1 D2 : Addr} {ms : List Move} (h1 : MovesAt g H D1 ms) (h2 : MovesAt g H D2 ms) (few : ms.length ≤ 10000) (l100 : ∀ m ∈ ms, m.2.length ≤ 100) (nm : ∀ m ∈ ms, IsName m.1) : Dp g.K H (.ref D1) (.list (ms.map moveD)) ∧ Dp g.K H (.ref D2) (.list (ms.map moveD)) ∧ (PyData.list (ms.map moveD)).depth ≤ 3 ∧ shortD (.list (ms.map moveD)) = true := by
  obtain ⟨xs, a1, b1⟩ := h1.ex
  obtain ⟨ys, a2, b2⟩ := h2.ex
  refine ⟨.lst (SqL.of a1) (dp_moves b1), .lst (SqL.of a2) (dp_moves b2), ?_, ?_⟩
  · have := (moves_lay ms nm).2
    simp only [PyData.depth]; omega
  · unfold shortD
    rw [short_moves ms l100, List.length_map, Bool.and_true]
    exact decide_eq_true (by omega)
theorem pure_k07_1 {g : Ga} {H : Hp} {Q : VK} {a : Option V} {x pt rl cl t rt pl : Addr} {us xs : List V} {ms : List Move} {ps : List (List Int)} {rs : List Rw} {ds : List Int} (hpt : H pt = some (.tup [.ref rl, .ref cl])) (hr : RowsAt g H rl rs) (r24 : ∀ r ∈ rs, r.2.length ≤ 24) (hx : SysAt g H x rs ds) (sm : SmallR rs) (nm : ∀ w ∈ sysWords rs, IsName w) (ht : H t = some (.tup [.ref rt, .ref pl])) (hu : SqT g.K H rt us) (hm : Paired (MoveAt g.K H) us ms) (hp : H pl = some (.lst xs)) (hs : Paired (StAt g.K H) xs ps) (wk : WalkOk rs ps ms) (few : ms.length ≤ 1000) (q : ∀ H', Q (.bl true) H') :
    t_k07_1 g (endsQ Q) [a, some (.ref pt), some (.ref x), some (.ref t), none, none, none, none, none] H := by
  have lx := hs.length
  have wl := wk.len
  have n4 := sm.n4
  refine ⟨by show 0 ≤ sizeLine; decide, fun sn hsn => ?_⟩
  have s1 : Same H (upd H sn (.lst [])) := Same.new hsn
  refine ⟨_, rfl, t, _, _, .ref pl, rfl, rfl, SqT.of (s1 _ _ ht), rfl, pl, rfl, ⟨_, SqL.of (s1 _ _ hp)⟩, for_list (K := g.K) (a := pl) (xs := xs) (fun i σ H' => ∃ (zs : List V) (pss : List (List Int)) (p5 p6 p7 : Option V), σ = [a, some (.ref pt), some (.ref x), some (.ref t), some (.ref sn), p5, p6, p7, none] ∧ Same H H' ∧ H' sn = some (.lst zs) ∧ Paired (StAt g.K H') zs pss ∧ pss.length ≤ i) ⟨[], [], _, _, _, rfl, s1, upd_same, .nil, Nat.le_refl _⟩ (fun i σ H' _ ⟨_, _, _, _, _, _, z, _⟩ => SqL.of (z _ _ hp)) ?_ ?_⟩
  · rintro i v σ H1 hv ⟨zs, pss, p5, p6, p7, rfl, s2, hz, hps, pl1⟩
    obtain ⟨p, hp1, st⟩ := paired_get hs hv
    have sp := wk.st p (List.mem_of_getElem? hp1)
    have ii := (List.getElem?_eq_some_iff.mp hv).1
    have lz := hps.length
    refine ⟨_, rfl, _, rfl, stD p, _, dp_st (st.mono s2), .lst (SqL.of hz) (dp_sts hps), st_shaped p, sts_shaped pss, _, rfl, ite2 (fun _ => ?_) fun _ => ⟨zs, pss, _, _, _, rfl, s2, hz, hps, by omega⟩⟩
    refine s_drop ?_
    refine ⟨_, rfl, .inl ⟨rfl, _, SqL.of hz⟩, _, rfl, sn, _, _, rfl, rfl, hz, big_line (by omega), ?_⟩
    generalize hH2 : upd H1 sn (.lst (zs ++ [v])) = H2
    have s3 : Same H H2 := by rw [← hH2]; exact Same.own s2 hsn
    have hz2 : H2 sn = some (.lst (zs ++ [v])) := by rw [← hH2]; exact upd_same
    have hps2 : Paired (StAt g.K H2) (zs ++ [v]) (pss ++ [p]) := by
      rw [← hH2]
      exact paired_app (paired_mono (fun _ _ z => z.upd hz) hps) (.cons ((st.mono s2).upd hz) .nil)
    obtain ⟨sb, esb, hsb⟩ := st.mono s3
    refine s_asg ?_
    refine ⟨_, rfl, pt, _, _, .ref rl, rfl, rfl, SqT.of (s3 _ _ hpt), rfl, _, rfl, rl, sb, rs, p, by rw [esb]; rfl, hr.mono s3, SqT.of hsb, sp.len, sm, r24, fun D1 H3 s4 nD1 hD1 => ?_⟩
    have s03 := s3.trans s4
    refine n_seq ?_
    refine meth_moves (v := v) rfl (hx.mono s03) (fun Q q => ⟨_, rfl, q⟩) (st.mono s03) sp sm fun D2 H4 s5 nD2 hD2 => ?_
    have s04 := s03.trans s5
    have ml := movesOf_len (sts := p) sm
    have nml : ∀ m ∈ movesOf rs p, IsName m.1 := fun m h => nm _ (moves_word h)
    have l100 : ∀ m ∈ movesOf rs p, m.2.length ≤ 100 := fun m h => by rw [(valid_of h sp.len).1]; omega
    obtain ⟨f1, f2, f3, f4⟩ := same_data hD2 (hD1.mono s5) (by omega) l100 nml
    refine ⟨_, rfl, _, rfl, _, _, _, rfl, f1, f2, f3, f4, true, rfl, iteF ?_⟩
    obtain ⟨ys, hy, hyp⟩ := hD2.ex
    have ly := hyp.length
    refine ⟨_, rfl, .inl ⟨rfl, _, SqL.of hy⟩, by show 0 ≤ sizeLine; decide, fun t0 ht0 => ⟨by show 2 ≤ sizeLine; decide, fun t1 ht1 => ?_⟩⟩
    have s6 : Same H4 (upd (upd H4 t0 (.tup [])) t1 (.tup [.str "a", .ref t0])) := (Same.new ht0 : Same H4 (upd H4 t0 (.tup []))).trans (Same.new ht1)
    have hy6 := s6 _ _ hy
    refine ⟨D2, _, _, rfl, rfl, hy6, big_line (by omega), ?_⟩
    have nD2H : H D2 = none := s03.free nD2
    have nD12 : D1 ≠ D2 := fun z => by
      obtain ⟨w1, e1, _⟩ := hD1.ex
      rw [z, nD2] at e1; cases e1
    refine ⟨_, rfl, .inl ⟨rfl, _, SqL.of upd_same⟩, D2, _, rfl, rfl, upd_same, ?_⟩
    rw [upd_upd]
    generalize hH7 : upd (upd (upd H4 t0 (.tup [])) t1 (.tup [.str "a", .ref t0])) D2 _ = H7
    have s7 : Same H H7 := by rw [← hH7]; exact Same.own (s04.trans s6) nD2H
    have hD17 : MovesAt g H7 D1 (movesOf rs p) := by
      obtain ⟨w1, e1, e2⟩ := (hD1.mono (s5.trans s6)).ex
      rw [← hH7]
      exact ⟨w1, by rw [upd_ne nD12]; exact e1, paired_mono (fun _ _ z => z.upd hy6) e2⟩
    have nsn : sn ≠ D2 := fun z => by
      have := (s4.trans s5) _ _ hz2
      rw [z] at this
      rw [← z] at nD2
      rw [s4 _ _ hz2] at nD2
      cases nD2
    have hz7 : H7 sn = some (.lst (zs ++ [v])) := by rw [← hH7, upd_ne nsn]; exact s6 _ _ ((s4.trans s5) _ _ hz2)
    have hps7 : Paired (StAt g.K H7) (zs ++ [v]) (pss ++ [p]) := by
      rw [← hH7]
      exact paired_mono (fun _ _ z => ((z.mono (s4.trans s5)).mono s6).upd hy6) hps2
    refine meth_moves (v := v) rfl (hx.mono s7) (fun Q q => ⟨_, rfl, q⟩) (st.mono s7) sp sm fun D3 H8 s8 nD3 hD3 => ?_
    obtain ⟨f1, f2, f3, f4⟩ := same_data hD3 (hD17.mono s8) (by omega) l100 nml
    refine ⟨_, rfl, _, _, _, rfl, f1, f2, f3, f4, true, rfl, iteF ?_⟩
    exact ⟨zs ++ [v], pss ++ [p], _, _, _, rfl, s7.trans s8, s8 _ _ hz7, paired_mono (fun _ _ z => z.mono s8) hps7, by simp; omega⟩
  · rintro σ H1 ⟨zs, pss, p5, p6, p7, rfl, s2, hz, hps, pl1⟩
    exact pure_k07_2 (hx.mono s2) sm nm (s2 _ _ ht) (Same.tup s2 hu) (paired_mono (fun _ _ z => z.mono s2) hm) (s2 _ _ hp) (paired_mono (fun _ _ z => z.mono s2) hs) wk few q
theorem cut_ints (ns : List Int) (lo hi : Option Int) : ∃ ks : List Int, cutV (ns.map V.int) lo hi = ks.map V.int ∧ ks.length ≤ ns.length := by
  unfold cutV
  rw [← List.map_drop, ← List.map_take]
  exact ⟨_, rfl, by rw [List.length_take, List.length_drop]; omega⟩
theorem pure_k07_law {g : Ga} {vs : List V} {H : Hp} {Q : VK} {E : XK} {N : List Str} (hN : N.length = 9) (h : sp_k07_law g vs H Q E) : t_k07_law g (endsQ Q) (L2.start N vs) H := by
  obtain ⟨a, ns, rfl, ha, n63, q⟩ := h
  have e0 : L2.start N [.ref a] = [some (.ref a), none, none, none, none, none, none, none, none] := by unfold L2.start; rw [hN]; rfl
  rw [e0]
  refine ⟨_, rfl, a, ns, 3, 4, 3, 6, rfl, ha, by decide, by decide, by decide, by decide, by decide, by decide, by decide, by decide, fun pt rl cl rs ks zs H1 s1 npt nrl ncl hpt hr hcl dr => ?_⟩
  have sm := dr.small (by decide) (by decide)
  have r24 : ∀ r ∈ rs, r.2.length ≤ 24 := fun r h => (dr.ok r h).l2
  refine ⟨_, rfl, pt, _, _, .ref rl, rfl, rfl, SqT.of hpt, rfl, _, rfl, pt, _, _, .ref cl, rfl, rfl, SqT.of hpt, rfl, rl, cl, rs, ks, rfl, hr, hcl, dr.sys (by decide) (by decide) (by decide), fun x H2 s2 nx hx => ?_⟩
  obtain ⟨cs, ecs, lcs⟩ := cut_ints ns (some 4) none
  refine ⟨_, rfl, pt, _, _, .ref rl, rfl, rfl, SqT.of (s2 _ _ hpt), rfl, _, rfl, _, rfl, a, _, rfl, (s1.trans s2).seq ha, fun c hc => ?_⟩
  have s3 : Same H2 (upd H2 c (.lst (cutV (ns.map V.int) (some 4) none))) := Same.new hc
  refine ⟨rl, c, rs, cs, rfl, hr.mono (s2.trans s3), SqL.of (by rw [upd_same, ecs]), by omega, sm, r24, fun t rt pl us xs ms ps H4 s4 ht hu hm hp hs wk ml => ?_⟩
  have s24 := s3.trans s4
  exact pure_k07_1 (s24 _ _ (s2 _ _ hpt)) (hr.mono (s2.trans s24)) r24 (hx.mono s24) sm (fun w h => dr.names h) ht hu hm hp hs wk (by omega) q
end Sd
namespace Sd
open PySem PySem.Spec PyProof.Rows L2
section
variable {P : Program} {w : World} {A : Around} {E : Value → Shared → Prop} {s : Shared}

theorem ix_set_list {l : Addr} {items : Array Value} {ns : List Int} {Q : Value → Shared → Prop} (hh : A.handled = none) (hl : s.heap.IsList l items) (hi : IntsAre items.toList ns) (hfew : ns.length + 1 < scanBound)
    (hQ : ∀ (h' : Heap) (tk c : Nat), SetR w h' s.heap.objs.size (fun j => decide (j ∈ ns)) c → c ≤ ns.length → (∀ b o, s.heap.get? b = some o → h'.get? b = some o) → Q (.ref s.heap.objs.size) { s with heap := h', toks := tk }) :
    wpAny (model P w) A (call (.type "set") [.ref l]) Q E s := by
  obtain ⟨cmro, tlmro, hmro⟩ := PySem.F.called_set.mro
  have hmade := PySem.F.called_set.made
  have hsubt := PySem.F.called_set.sub
  refine wpAny_call (codeAny_of_tree ?_)
  show wpAny _ _ (callAny (.type "set") _) _ _ _
  refine wpAny_pure ⟨Code.quiet_builtin _ (by decide +kernel), codeAny_builtin PySem.F.entry_type_call ?_⟩
  rw [Around.under_plain (weight_type_call_type "set" [.ref l] []) rfl]
  have c1 := PySem.F.called_set.notType
  have c2 := PySem.F.called_set.canCreate
  have c3 := PySem.F.typeCall_set_1 (.ref l)
  repeat (any_goals (first | assumption | wp_step))
  refine codeAny_mono (code_set_led1 (.ref l) (E := E) (Q₁ := fun ob s₁ => ob = .ref s.heap.objs.size ∧ s₁ = { s with heap := s.heap.push (newS w) }) ⟨rfl, rfl⟩) fun r s₁ hr => ?_
  cases r with
  | error e => exact hr
  | ok fl =>
    cases fl with
    | ret ob =>
      obtain ⟨rfl, rfl⟩ := hr
      have hS : (s.heap.push (newS w)).get? s.heap.objs.size = some (newS w) := Heap.get?_push_size _ rfl
      have hT : Shared.TypeIs { s with heap := s.heap.push (newS w) } (.ref s.heap.objs.size) "set" := ⟨_, hS, rfl⟩
      have hli := PySem.F.called_set.init.lookup
      have hbi := PySem.F.called_set.init.bind (.ref s.heap.objs.size)
      repeat (any_goals (first | assumption | wp_step))
      refine codeAny_mono (codeAny_call_builtin (R := wants (fun r s₂ => r = .none ∧ ∃ h' tk c, s₂ = { s with heap := h', toks := tk } ∧ (SetR w h' s.heap.objs.size (fun j => decide (j ∈ ns)) c ∧ c ≤ ns.length) ∧
          (∀ b o, s.heap.get? b = some o → h'.get? b = some o)) E) PySem.F.called_set.init.plain PySem.F.entry_set_init (check_set_init_1 hT ?_)) fun r₂ s₂ hr₂ => ?_
      · obtain ⟨ol, hol, hcl, nl, hdl⟩ := hl
        obtain ⟨ocl, odi, oda, osl⟩ := ol
        simp only at hcl hdl
        subst hcl; subst hdl
        have hol2 : (s.heap.push (newS w)).get? l = some { cls := .type "list", dict := odi, data := .seq items nl, slots := osl } := Heap.get?_push_of_some _ hol
        have n1 := PySem.F.sub_list_set
        have n2 := PySem.F.sub_list_frozenset
        have n3 : (Value.type "list" == Value.type "dict") = false := by decide
        have hl1 : (s.heap.push (newS w)).IsList l items := ⟨_, hol2, rfl, nl, rfl⟩
        unfold Builtin.«set.__init__» noKeywords Builtin.Frozenset.updateFrom
        generalize hPI : pyIter = PI
        wp_walk
        subst hPI
        refine wpAny_pyIter_list hl1 ?_
        refine wpAny_bind (wpAny_runValue ?_)
        have hlS : l < s.heap.objs.size := Heap.lt_size hol
        have hh3 : A.in1.in1.in1.handled = none := by simp [hh]
        have hneI : l ≠ (s.heap.push (newS w)).objs.size := by
          rw [Heap.size_push]
          exact Nat.ne_of_lt (Nat.lt_succ_of_lt hlS)
        have hSf : s.heap.objs.size ∉ [(s.heap.push (newS w)).objs.size, l] := by
          rw [Heap.size_push]
          simp only [List.mem_cons, List.mem_singleton, List.not_mem_nil, or_false, not_or]
          exact ⟨Nat.ne_of_lt (Nat.lt_succ_self _), Nat.ne_of_gt hlS⟩
        have hsz : items.size = ns.length := by
          have e := IntsAre.length hi
          rwa [Array.length_toList] at e
        have hval : ∀ (i : Nat) (v : Value), items[i]? = some v → ∃ k t, ns[i]? = some k ∧ v = .int k t := fun i v hv => by
          have il : i < ns.length := by rw [← hsz]; exact (Array.getElem?_eq_some_iff.mp hv).1
          obtain ⟨t, e⟩ := IntsAre.int_at hi i v (by rw [Array.getElem?_toList]; exact hv)
          exact ⟨ns[i], t, List.getElem?_eq_getElem il, by rw [e, List.getD_eq_getElem?_getD, List.getElem?_eq_getElem il] <;> rfl⟩
        refine set_update_ints ((Walks.list hh3 _ l hneI items).toS) s.heap.objs.size hSf ns hsz hfew hval (items.size - 0) 0 _ (by omega) (Nat.zero_le _)
          ⟨⟨_, Heap.get?_push_size _ rfl, rfl, rfl⟩, (hl1.push _)⟩ ?hS0 ?hR
        case hS0 => exact ⟨0, Nat.le_refl 0, setR_new_at (Heap.get?_push_of_some _ hS)⟩
        case hR =>
          intro s' c' hm hc' hS'
          obtain ⟨h', g', d', tk', os'⟩ := s'
          obtain rfl : g' = s.gens := hm.gens
          obtain rfl : d' = s.drawn := hm.drawn
          obtain rfl : os' = s.os := hm.os
          show wpAny _ _ _ _ _ _
          refine wpAny_pure ?_
          show wpAny _ _ (ret Value.none) _ _ _
          refine wpAny_pure ⟨rfl, h', tk', c', rfl, ⟨hS', by rw [hsz] at hc'; exact hc'⟩, fun b o e => ?_⟩
          have hb := Heap.lt_size e
          refine hm.heap b o ?_ (Heap.get?_push_of_some _ (Heap.get?_push_of_some _ e))
          rw [Heap.size_push]
          simp only [List.mem_cons, List.mem_singleton, List.not_mem_nil, or_false, not_or]
          exact ⟨Nat.ne_of_lt hb, Nat.ne_of_lt (Nat.lt_succ_of_lt hb)⟩
      · cases r₂ with
        | error e => exact hr₂
        | ok fl₂ =>
          cases fl₂ with
          | ret r =>
            obtain ⟨rfl, h', tk, c', rfl, ⟨hS', hc'⟩, hk'⟩ := hr₂
            repeat (any_goals (first | assumption | wp_step))
            exact hQ _ _ _ hS' hc' hk'
          | _ => exact hr₂.elim
    | _ => exact hr.elim

end
end Sd
namespace Sd
open PySem PySem.Spec PyProof.Rows L2
theorem nodup_leS {α : Type} [DecidableEq α] : ∀ (l D : List α), l.Nodup → (∀ x ∈ l, x ∈ D) → l.length ≤ D.length
  | [], _, _, _ => Nat.zero_le _
  | a :: l, D, nd, h => by
    have ha : a ∈ D := h a List.mem_cons_self
    obtain ⟨n1, n2⟩ := List.nodup_cons.mp nd
    have ih := nodup_leS l (D.erase a) n2 fun x hx => (List.mem_erase_of_ne (fun e => n1 (by rw [← e]; exact hx))).mpr (h x (List.mem_cons_of_mem _ hx))
    rw [List.length_erase_of_mem ha] at ih
    have := List.length_pos_of_mem ha
    rw [List.length_cons]; omega
/-- set(a list of ints) -/
def rSetI (K : PySem.W.Frag) (w : World) : List V → Hp → VK → Prop := fun xs H Q => ∃ (a : Addr) (ns : List Int), xs = [.ref a] ∧ SqL K H a (ns.map V.int) ∧ ns.length ≤ 1000 ∧ ∀ (p : Addr) (c : Nat), c ≤ ns.length → (∀ M : List Int, (∀ j ∈ ns, j ∈ M) → c ≤ M.length) → H p = none → Q (.ref p) (upd H p (SetO w p (fun j => decide (j ∈ ns)) c))
theorem cr_setI {X : Cx} (hc : X.calm = true) : CallR X (.type "set") (rSetI X.K X.w) := by
  intro pins s σ H xs us Q I r h
  obtain ⟨l, ns, rfl, hs, hfew, q⟩ := h
  rw [Vals.ref1 r]
  obtain ⟨its, rv, hl, _⟩ := I.list hs
  refine ix_set_list (I.ok.hd hc) hl.isList (by simpa using intsAre_of rv) (by unfold scanBound; omega) fun h' tk c R hc' k => ⟨.ref _, _, I.laid k (Nat.le_refl _) (setO_new R), rfl, q _ c hc' (fun M hM => ?_) (I.hok.fresh (Nat.le_refl _))⟩
  obtain ⟨o, es, ep, t, _, _, _, _, nd, mem, _, _, sz, _⟩ := R
  have := nodup_leS _ M nd fun x hx => hM x (of_decide_eq_true ((mem x).mpr hx))
  rw [List.length_map, Array.length_toList] at this
  omega
end Sd
namespace Sd
open PySem PySem.Spec PyProof.Rows L2
/-! ### led_to: as _law_behind -/
def sp_led_to (g : Ga) : Sp := fun vs H Q _ => ∃ (x : Addr) (u v : V) (rs : List Rw) (ds sts : List Int) (m : Move), vs = [.ref x, u, v] ∧ SysAt g H x rs ds ∧ StAt g.K H u sts ∧ MoveAt g.K H v m ∧ sts.length = rs.length ∧ m.2.length = rs.length ∧ ValidL rs sts m.2 ∧ rs.length ≤ 100 ∧ ∀ v H', Same H H' → StAt g.K H' v (behindOf rs sts m.2) → Q v H'
def t_led_to (g : Ga) : TS := (tSeq (tAsg (tLst tNil) (gName 3)) (tSeq (tFor (iEnumT g.K (tCons (tFld g.K (tVar 0) "hands") tNil)) (gTup g.K 2 (gCons (gName 4) (gCons (gName 5) gNil))) (tSeq (tAsg (tOp (rIxT g.K) (tOp (rIxT g.K) (tVar 2) (tC (.int 1))) (tVar 4)) (gName 6)) (tIfS (tTest (tOp rIsN (tVar 6) (tC .non))) (tDrop (tBM g.K "list" rApp (tVar 3) (tCons (tOp (rIxT g.K) (tVar 1) (tVar 4)) tNil))) (tDrop (tBM g.K "list" rApp (tVar 3) (tCons (tOp (rIxT g.K) (tOp (rIxT g.K) (tFld g.K (tVar 5) "steps") (tVar 6)) (tC (.int 2))) tNil)))))) (tRet (tCB (rTupS g.K) (tCons (tVar 3) tNil)))))
theorem pure_led_to {g : Ga} {vs : List V} {H : Hp} {Q : VK} {E : XK} {N : List Str} (TH : HandC g) (T : SysC g) (hN : N.length = 7) (h : sp_led_to g vs H Q E) : t_led_to g (endsQ Q) (L2.start N vs) H := by
  obtain ⟨x, u, v, rs, ds, sts, m, rfl, hx, ⟨a, rfl, ha0⟩, ⟨ma, mb, rfl, hma, hmb⟩, sl, ml, val, few, q⟩ := h
  have ha : SqT g.K H a (sts.map V.int) := SqT.of ha0
  have e0 : L2.start N [.ref x, .ref a, .ref ma] = [some (.ref x), some (.ref a), some (.ref ma), none, none, none, none] := by unfold L2.start; rw [hN]; rfl
  rw [e0]
  obtain ⟨dx, hh, d', w', s', hs, g1, g2, g3, g4, g5, g6⟩ := hx.ex
  have lh := g3.length
  refine ⟨by show 0 ≤ sizeLine; decide, fun af haf => ?_⟩
  have s1 : Same H (upd H af (.lst [])) := Same.new haf
  refine ⟨_, rfl, x, _, dx, _, _, rfl, s1 _ _ g1, T.cl, T.n1, sfld_hands, hh, hs, rfl, Same.tup s1 g2, ?_⟩
  refine for_enumT (K := g.K) (a := hh) (xs := hs) (fun i σ H' => ∃ p4 p5 p6 : Option V, σ = [some (.ref x), some (.ref a), some (.ref ma), some (.ref af), p4, p5, p6] ∧ Same H H' ∧ H' af = some (.lst (((List.range i).map (behAt rs sts m.2)).map V.int))) ⟨none, none, none, rfl, s1, upd_same⟩ (fun i σ H' _ ⟨_, _, _, _, sm, _⟩ => Same.tup sm g2) ?_ ?_
  · rintro i y Ta σ H' hy ⟨p4, p5, p6, rfl, sm, hf⟩ nT
    obtain ⟨r, hr1, b, rfl, hb⟩ := paired_get g3 hy
    have il : i < rs.length := (List.getElem?_eq_some_iff.mp hr1).1
    have s2 : Same H' (upd H' Ta (.tup [.int (i : Nat), .ref b])) := Same.new nT
    have s02 := sm.trans s2
    have hf2 := s2 _ _ hf
    obtain ⟨st, hst⟩ : ∃ st, sts[i]? = some st := ⟨sts[i]'(by omega), List.getElem?_eq_getElem _⟩
    have axs : atI (sts.map V.int) ((i : Nat) : Int) = some (.int st) := atI_nat (by rw [List.getElem?_map, hst]; rfl)
    have fin : ∀ (z : Int) (p6 : Option V), behAt rs sts m.2 i = z → ∃ p4 p5 p6' : Option V, [some (V.ref x), some (.ref a), some (.ref ma), some (.ref af), some (V.int ((i : Nat) : Int)), some (.ref b), p6] = [some (.ref x), some (.ref a), some (.ref ma), some (.ref af), p4, p5, p6'] ∧ Same H (upd (upd H' Ta (.tup [.int (i : Nat), .ref b])) af (.lst (((List.range i).map (behAt rs sts m.2)).map V.int ++ [.int z]))) ∧ (upd (upd H' Ta (.tup [.int (i : Nat), .ref b])) af (.lst (((List.range i).map (behAt rs sts m.2)).map V.int ++ [.int z]))) af = some (.lst (((List.range (i + 1)).map (behAt rs sts m.2)).map V.int)) := fun z p6 e =>
      ⟨_, _, _, rfl, Same.own s02 haf, by rw [upd_same, List.range_succ, List.map_append, List.map_append, ← e]; rfl⟩
    have small : (((List.range i).map (behAt rs sts m.2)).map V.int).length < sizeLine := by
      rw [List.length_map, List.length_map, List.length_range]; exact small1000 (by omega)
    have axm : ∀ o, m.2[i]? = some o → atI (m.2.map optV) ((i : Nat) : Int) = some (optV o) := fun o ho => atI_nat (by rw [List.getElem?_map, ho]; rfl)
    refine ⟨Ta, _, rfl, SqT.of upd_same, rfl, _, _, rfl, _, _, rfl, rfl, ?_⟩
    rcases val i r st hr1 hst with hn | ⟨k, s, hk, hsk, es⟩
    · refine ⟨_, rfl, ma, _, _, .ref mb, rfl, rfl, Same.tup s02 hma, rfl, _, rfl, mb, _, _, .non, rfl, rfl, Same.tup s02 hmb, axm none hn, ?_⟩
      refine ⟨_, rfl, rfl, _, rfl, iteT ?_⟩
      refine ⟨_, rfl, .inl ⟨rfl, _, SqL.of hf2⟩, _, rfl, _, rfl, a, _, _, .int st, rfl, rfl, Same.tup s02 ha, axs, af, _, _, rfl, rfl, hf2, small, fin st _ ?_⟩
      unfold behAt; rw [hn, hst]; rfl
    · obtain ⟨dy, p1, q1, r1, zs, k1, k2, k3, k4, k5⟩ := (HandAt.mono s02 hb).ex
      refine ⟨_, rfl, ma, _, _, .ref mb, rfl, rfl, Same.tup s02 hma, rfl, _, rfl, mb, _, _, .int (k : Int), rfl, rfl, Same.tup s02 hmb, axm _ hk, ?_⟩
      refine ⟨_, rfl, rfl, _, rfl, ?_⟩
      rw [decide_eq_false (show ¬ V.int (k : Int) = V.non from fun z => by cases z)]
      have kz : k < zs.length := by
        have := (List.getElem?_eq_some_iff.mp hsk).1
        rw [k3.length]; exact this
      obtain ⟨s'', hs', c, ec, sc⟩ := paired_get k3 (List.getElem?_eq_getElem kz)
      rw [hsk] at hs'
      cases hs'
      have axz : atI zs ((k : Nat) : Int) = some (.ref c) := atI_nat (by rw [List.getElem?_eq_getElem kz, ec])
      refine iteF ⟨_, rfl, .inl ⟨rfl, _, SqL.of hf2⟩, _, rfl, b, _, dy, _, _, rfl, k1, TH.cl, TH.n2, fld_steps, _, rfl, p1, zs, _, .ref c, rfl, rfl, k2, axz, c, _, _, .int s.2.2, rfl, rfl, sc, rfl, af, _, _, rfl, rfl, hf2, small, fin s.2.2 _ ?_⟩
      unfold behAt; rw [hk, hr1]
      simp [hsk]
  · rintro σ H' ⟨p4, p5, p6, rfl, sm, hf⟩
    refine ⟨_, rfl, af, _, rfl, .inl ⟨SqL.of hf, fun t ht => ?_⟩⟩
    exact q (.ref t) _ (sm.trans (Same.new ht)) ⟨t, rfl, (by rw [upd_same, lh]; rfl)⟩
end Sd
namespace Sd
open PySem PySem.Spec PyProof.Rows L2
theorem moves_nums {rs : List Rw} {sts : List Int} {m : Move} (h : m ∈ movesOf rs sts) (sl : sts.length = rs.length) : m.2.length = rs.length ∧ ∀ (i : Nat) r st, rs[i]? = some r → sts[i]? = some st → ∃ o, m.2[i]? = some o ∧ o ∈ numbersOf r.2 st m.1 := by
  obtain ⟨w, hw, hm⟩ := List.mem_flatMap.mp h
  obtain ⟨l, hl, rfl⟩ := List.mem_map.mp hm
  obtain ⟨e1, e2⟩ := mem_lines _ (nums_len (w := w) sl) l hl
  exact ⟨e1, fun i r st hr hst => e2 i _ (nums_at hr hst)⟩
theorem opt_shaped (o : Option Int) : SeqAt.shaped (optD o) = true := by cases o <;> rfl
theorem opts_shaped (l : List (Option Int)) : SeqAt.shaped (.list (l.map optD)) = true := by
  have := opts_lay l
  unfold SeqAt.shaped
  rw [Bool.and_eq_true]
  exact ⟨by simp only [PyData.canLay0]; exact this.1, decide_eq_true (by simp only [PyData.depth]; omega)⟩
theorem any_opt {o : Option Int} {l : List (Option Int)} (h : o ∈ l) : (l.map optD).any (fun z => z.eqv (optD o)) = true := by
  rw [List.any_eq_true]
  refine ⟨optD o, List.mem_map.mpr ⟨o, h, rfl⟩, ?_⟩
  cases o <;> simp [optD, PyData.eqv]
theorem dp_opt {K : PySem.W.Frag} {H : Hp} (o : Option Int) : Dp K H (optV o) (optD o) := by
  cases o
  · exact .non
  · exact .int _
/-! ### is_move: a move of the moves -/
def sp_is_move (g : Ga) : Sp := fun vs H Q _ => ∃ (x : Addr) (u v : V) (rs : List Rw) (ds sts : List Int) (m : Move), vs = [.ref x, u, v] ∧ SysAt g H x rs ds ∧ StAt g.K H u sts ∧ MoveAt g.K H v m ∧ sts.length = rs.length ∧ SmallR rs ∧ m ∈ movesOf rs sts ∧ ∀ H', Same H H' → Q (.bl true) H'
def t_is_move (g : Ga) : TS := (tSeq (tIfS (tOr (tNot (tB (tCB (rIsi g.K) (tCons (tVar 2) (tCons (tC (.ty "tuple")) tNil))))) (tTest (tOp rNe (tCB (rLenS g.K) (tCons (tVar 2) tNil)) (tC (.int 2))))) (tRet (tC (.bl false))) tNext) (tSeq (tAsg (tVar 2) (gTup g.K 2 (gCons (gName 3) (gCons (gName 4) gNil)))) (tSeq (tIfS (tOr (tNot (tB (tCB (rIsi g.K) (tCons (tVar 3) (tCons (tC (.ty "str")) tNil))))) (tTest (tOp (rIn g.K true) (tVar 3) (tFld g.K (tVar 0) "words")))) (tRet (tC (.bl false))) tNext) (tSeq (tIfS (tOr (tNot (tB (tCB (rIsi g.K) (tCons (tVar 4) (tCons (tC (.ty "tuple")) tNil))))) (tTest (tOp rNe (tCB (rLenS g.K) (tCons (tVar 4) tNil)) (tCB (rLenS g.K) (tCons (tFld g.K (tVar 0) "hands") tNil))))) (tRet (tC (.bl false))) tNext) (tSeq (tFor (iEnumT g.K (tCons (tFld g.K (tVar 0) "hands") tNil)) (gTup g.K 2 (gCons (gName 5) (gCons (gName 6) gNil))) (tSeq (tAsg (tOp (rIxT g.K) (tVar 4) (tVar 5)) (gName 7)) (tSeq (tIfS (tAnd (tTest (tOp rNotN (tVar 7) (tC .non))) (tNot (tB (tCall (sp_is_integer g) [] E0 (tCons (tVar 7) tNil))))) (tRet (tC (.bl false))) tNext) (tIfS (tTest (tOp (rNotInD g.K) (tVar 7) (tCall (sp_step_numbers g) [] E0 (tCons (tVar 6) (tCons (tOp (rIxT g.K) (tVar 1) (tVar 5)) (tCons (tVar 3) tNil)))))) (tRet (tC (.bl false))) tNext)))) (tRet (tC (.bl true))))))))
theorem pure_is_move {g : Ga} {vs : List V} {H : Hp} {Q : VK} {E : XK} {N : List Str} (TH : HandC g) (T : SysC g) (hN : N.length = 8) (h : sp_is_move g vs H Q E) : t_is_move g (endsQ Q) (L2.start N vs) H := by
  obtain ⟨x, u, v, rs, ds, sts, m, rfl, hx, ⟨a, rfl, ha0⟩, ⟨ma, mb, rfl, hma, hmb⟩, sl, sm, mm, q⟩ := h
  have ha : SqT g.K H a (sts.map V.int) := SqT.of ha0
  have e0 : L2.start N [.ref x, .ref a, .ref ma] = [some (.ref x), some (.ref a), some (.ref ma), none, none, none, none, none] := by unfold L2.start; rw [hN]; rfl
  rw [e0]
  obtain ⟨dx, hh, d', w', s', hs, g1, g2, g3, g4, g5, g6⟩ := hx.ex
  have lh := g3.length
  obtain ⟨ml, val⟩ := moves_nums mm sl
  have mw := moves_word mm
  refine ⟨_, rfl, _, .ty "tuple", _, _, true, rfl, .ty _, st_ty hma, kb (by decide +kernel), true, rfl, iteF ?_⟩
  refine ⟨_, rfl, ma, _, rfl, .inr hma, rfl, _, rfl, iteF ?_⟩
  refine ⟨_, rfl, ma, _, rfl, hma, rfl, _, _, rfl, _, _, rfl, rfl, ?_⟩
  refine ⟨_, rfl, _, .ty "str", _, _, true, rfl, .ty _, .base (.str _), kb (by decide +kernel), true, rfl, iteF ?_⟩
  refine ⟨_, rfl, _, rfl, x, _, dx, _, _, rfl, g1, T.cl, T.n3, sfld_words, w', _, rfl, .inr g5, rfl, str_flat _, _, rfl, ?_⟩
  rw [if_pos rfl, inV_str, decide_eq_true mw]
  refine iteF ?_
  refine ⟨_, rfl, _, .ty "tuple", _, _, true, rfl, .ty _, st_ty hmb, kb (by decide +kernel), true, rfl, iteF ?_⟩
  refine ⟨_, rfl, mb, _, rfl, .inr hmb, _, rfl, x, _, dx, _, _, rfl, g1, T.cl, T.n1, sfld_hands, hh, _, rfl, .inr g2, rfl, _, rfl, ?_⟩
  rw [decide_eq_true (show V.int ((m.2.map optV).length : Int) = V.int (hs.length : Int) by rw [List.length_map, ml, lh])]
  refine iteF ⟨_, rfl, x, _, dx, _, _, rfl, g1, T.cl, T.n1, sfld_hands, hh, hs, rfl, g2, ?_⟩
  refine for_enumT (K := g.K) (a := hh) (xs := hs) (fun i σ H' => ∃ p5 p6 p7 : Option V, σ = [some (.ref x), some (.ref a), some (.ref ma), some (.str m.1), some (.ref mb), p5, p6, p7] ∧ Same H H') ⟨none, none, none, rfl, Same.refl H⟩ (fun i σ H' _ ⟨_, _, _, _, z⟩ => Same.tup z g2) ?_ ?_
  · rintro i y Ta σ H' hy ⟨p5, p6, p7, rfl, s1⟩ nT
    obtain ⟨r, hr1, b, rfl, hb⟩ := paired_get g3 hy
    have il : i < rs.length := (List.getElem?_eq_some_iff.mp hr1).1
    have s2 : Same H (upd H' Ta (.tup [.int (i : Nat), .ref b])) := s1.trans (Same.new nT)
    obtain ⟨st, hst⟩ : ∃ st, sts[i]? = some st := ⟨sts[i]'(by omega), List.getElem?_eq_getElem _⟩
    have axs : atI (sts.map V.int) ((i : Nat) : Int) = some (.int st) := atI_nat (by rw [List.getElem?_map, hst]; rfl)
    obtain ⟨o, ho, mo⟩ := val i r st hr1 hst
    have axm : atI (m.2.map optV) ((i : Nat) : Int) = some (optV o) := atI_nat (by rw [List.getElem?_map, ho]; rfl)
    have rm := List.mem_of_getElem? hr1
    refine ⟨Ta, _, rfl, SqT.of upd_same, rfl, _, _, rfl, _, _, rfl, rfl, ?_⟩
    refine ⟨_, rfl, _, rfl, mb, _, _, optV o, rfl, rfl, Same.tup s2 hmb, axm, ?_⟩
    have rest : ∀ D : Ends, (∀ H3, Same H H3 → D.nx [some (.ref x), some (.ref a), some (.ref ma), some (.str m.1), some (.ref mb), some (.int ((i : Nat) : Int)), some (.ref b), some (optV o)] H3) → tIfS (tTest (tOp (rNotInD g.K) (tVar 7) (tCall (sp_step_numbers g) [] E0 (tCons (tVar 6) (tCons (tOp (rIxT g.K) (tVar 1) (tVar 5)) (tCons (tVar 3) tNil)))))) (tRet (tC (.bl false))) tNext D [some (.ref x), some (.ref a), some (.ref ma), some (.str m.1), some (.ref mb), some (.int ((i : Nat) : Int)), some (.ref b), some (optV o)] (upd H' Ta (.tup [.int (i : Nat), .ref b])) := fun D hD => by
      refine t_test ⟨_, rfl, ?_⟩
      refine ⟨_, rfl, _, rfl, _, rfl, a, _, _, _, rfl, rfl, Same.tup s2 ha, axs, _, rfl, b, st, m.1, r.1, r.2, rfl, HandAt.mono s2 hb, sm.ll r rm, fun nl H3 s3 nnl hnl => ?_⟩
      refine ⟨optD o, (numbersOf r.2 st m.1).map optD, dp_opt o, .lst (SqL.of hnl) (dp_opts _), opt_shaped o, opts_shaped _, _, rfl, ?_⟩
      rw [any_opt mo]
      exact iteF (hD H3 (s2.trans s3))
    have out : ∀ H3, Same H H3 → ∃ p5 p6 p7 : Option V, [some (V.ref x), some (V.ref a), some (V.ref ma), some (V.str m.1), some (V.ref mb), some (V.int ((i : Nat) : Int)), some (V.ref b), some (optV o)] = [some (.ref x), some (.ref a), some (.ref ma), some (.str m.1), some (.ref mb), p5, p6, p7] ∧ Same H H3 := fun H3 s3 => ⟨_, _, _, rfl, s3⟩
    cases o with
    | none =>
      refine ⟨_, rfl, rfl, _, rfl, iteF ?_⟩
      exact rest _ out
    | some z =>
      refine ⟨_, rfl, rfl, _, rfl, ?_⟩
      rw [decide_eq_false (show ¬ optV (some z) = V.non from fun z => by cases z)]
      refine iteT ⟨_, rfl, _, true, rfl, .inl ⟨z, rfl, rfl⟩, true, rfl, iteF ?_⟩
      exact rest _ out
  · rintro σ H' ⟨p5, p6, p7, rfl, s1⟩
    exact q H' s1
/-! ### takes_along -/
def takesB (ms : List Move) (h : Nat) : Bool := ms.any fun m => (m.2[h]?.getD none).isSome
def sp_takes_along (g : Ga) : Sp := fun vs H Q _ => ∃ (lo : Addr) (h : Nat) (us : List V) (ms : List Move), vs = [.ref lo, .int h] ∧ SqT g.K H lo us ∧ Paired (MoveAt g.K H) us ms ∧ (∀ m ∈ ms, h < m.2.length) ∧ ∀ H', Same H H' → Q (.bl (takesB ms h)) H'
def t_takes_along (g : Ga) : TS := (tSeq (tFor (iTup g.K (tVar 0)) (gName 2) (tIfS (tTest (tOp rNotN (tOp (rIxT g.K) (tOp (rIxT g.K) (tVar 2) (tC (.int 1))) (tVar 1)) (tC .non))) (tRet (tC (.bl true))) tNext)) (tRet (tC (.bl false))))
theorem pure_takes_along {g : Ga} {vs : List V} {H : Hp} {Q : VK} {E : XK} {N : List Str} (hN : N.length = 3) (h : sp_takes_along g vs H Q E) : t_takes_along g (endsQ Q) (L2.start N vs) H := by
  obtain ⟨lo, h, us, ms, rfl, hu, hm, len, q⟩ := h
  have e0 : L2.start N [.ref lo, .int h] = [some (.ref lo), some (.int h), none] := by unfold L2.start; rw [hN]; rfl
  rw [e0]
  have lm := hm.length
  refine ⟨_, rfl, lo, rfl, ⟨_, hu⟩, for_tup (K := g.K) (a := lo) (xs := us) (fun i σ H' => ∃ p2 : Option V, σ = [some (.ref lo), some (.int h), p2] ∧ Same H H' ∧ takesB (ms.take i) h = false) ⟨none, rfl, Same.refl H, rfl⟩ (fun i σ H' _ ⟨_, _, z, _⟩ => Same.tup z hu) ?_ ?_⟩
  · rintro i v σ H' hv ⟨p2, rfl, s1, nt⟩
    obtain ⟨m, hm1, ma, mb, rfl, hma, hmb⟩ := paired_get hm hv
    have hl := len m (List.mem_of_getElem? hm1)
    have axm : atI (m.2.map optV) ((h : Nat) : Int) = some (optV m.2[h]) := atI_nat (by rw [List.getElem?_map, List.getElem?_eq_getElem hl]; rfl)
    refine ⟨_, rfl, ma, _, _, .ref mb, rfl, rfl, Same.tup s1 hma, rfl, _, rfl, mb, _, _, optV m.2[h], rfl, rfl, Same.tup s1 hmb, axm, rfl, _, rfl, ?_⟩
    have eg : (m.2[h]?.getD none).isSome = (m.2[h]).isSome := by rw [List.getElem?_eq_getElem hl]; rfl
    cases e : m.2[h] with
    | none =>
      refine iteF ⟨_, rfl, s1, ?_⟩
      unfold takesB at nt ⊢
      rw [List.take_add_one, hm1, Option.toList_some, List.any_append, nt, List.any_cons, List.any_nil, eg, e]; rfl
    | some z =>
      rw [decide_eq_false (show ¬ optV (some z) = V.non from fun z => by cases z)]
      have tt : takesB ms h = true := by
        unfold takesB
        rw [List.any_eq_true]
        exact ⟨m, List.mem_of_getElem? hm1, by rw [eg, e]; rfl⟩
      have := q H' s1
      rw [tt] at this
      exact iteT this
  · rintro σ H' ⟨p2, rfl, s1, nt⟩
    rw [lm, List.take_length] at nt
    have := q H' s1
    rw [nt] at this
    exact this
end Sd
namespace Sd
open PySem PySem.Spec PyProof.Rows L2
/-! ### who is able -/
def ableN (rs : List Rw) (sts : List Int) : List Nat := (List.range rs.length).filter fun i => (movesOf rs sts).any fun m => (m.2[i]?.getD none).isSome
def ableOf (rs : List Rw) (sts : List Int) : List Int := (ableN rs sts).map fun k : Nat => (k : Int)
theorem ableOf_asc (rs : List Rw) (sts : List Int) : AscI (ableOf rs sts) := filt_asc _ _
theorem lines_pick : ∀ {nums : List (List (Option Int))} (k : Nat), nums.length = k → (∀ n ∈ nums, n ≠ []) → ∀ (i : Nat) n o, nums[i]? = some n → o ∈ n → ∃ l ∈ linesOf nums, l[i]? = some o := by
  intro nums k
  induction k generalizing nums with
  | zero => intro h _ i n o hi; rw [List.length_eq_zero_iff.mp h] at hi; simp at hi
  | succ k ih =>
    intro h ne i n o hi ho
    have nn : nums ≠ [] := fun e => by rw [e] at h; simp at h
    have ld : nums.dropLast.length = k := by rw [List.length_dropLast]; omega
    have e := List.dropLast_concat_getLast nn
    have ned : ∀ m ∈ nums.dropLast, m ≠ [] := fun m hm => ne m (List.dropLast_subset _ hm)
    rw [← e, linesOf_snoc]
    rw [← e] at hi
    by_cases c : i < k
    · rw [List.getElem?_append_left (by omega)] at hi
      obtain ⟨l, hl, hli⟩ := ih ld ned i n o hi ho
      obtain ⟨x, hx⟩ := List.exists_mem_of_ne_nil _ (ne _ (List.getLast_mem nn))
      refine ⟨l ++ [x], ?_, ?_⟩
      · unfold stepL
        exact List.mem_flatMap.mpr ⟨l, hl, List.mem_map.mpr ⟨x, hx, rfl⟩⟩
      · rw [List.getElem?_append_left (by rw [linesOf_lens _ ld l hl]; exact c)]
        exact hli
    · rw [List.getElem?_append_right (by omega)] at hi
      have ei : i = k := by
        have := (List.getElem?_eq_some_iff.mp hi).1
        simp at this
        omega
      subst ei
      rw [ld, Nat.sub_self] at hi
      simp at hi
      -- some line of the others
      have some_line : ∃ l, l ∈ linesOf nums.dropLast := by
        clear hi c ih
        generalize nums.dropLast = ms at ned ld
        clear e nn ne h
        induction i generalizing ms with
        | zero => rw [List.length_eq_zero_iff.mp ld]; exact ⟨[], by simp [linesOf]⟩
        | succ i ih2 =>
          have nn2 : ms ≠ [] := fun e => by rw [e] at ld; simp at ld
          obtain ⟨l, hl⟩ := ih2 ms.dropLast (fun m hm => ned m (List.dropLast_subset _ hm)) (by rw [List.length_dropLast]; omega)
          obtain ⟨x, hx⟩ := List.exists_mem_of_ne_nil _ (ned _ (List.getLast_mem nn2))
          rw [← List.dropLast_concat_getLast nn2, linesOf_snoc]
          exact ⟨l ++ [x], by unfold stepL; exact List.mem_flatMap.mpr ⟨l, hl, List.mem_map.mpr ⟨x, hx, rfl⟩⟩⟩
      obtain ⟨l, hl⟩ := some_line
      refine ⟨l ++ [o], ?_, ?_⟩
      · unfold stepL
        exact List.mem_flatMap.mpr ⟨l, hl, List.mem_map.mpr ⟨o, by rw [hi]; exact ho, rfl⟩⟩
      · rw [List.getElem?_append_right (by rw [linesOf_lens _ ld l hl]; omega), linesOf_lens _ ld l hl, Nat.sub_self]; rfl
/-- the holders of a word -/
def holders (rs : List Rw) (w : Str) : List Nat := (List.range rs.length).filter fun i => (rs[i]?.map fun r => decide (w ∈ wordsOf r.2)).getD false
def stuckAt (rs : List Rw) (sts : List Int) (w : Str) (i : Nat) : Bool := (rs[i]?.bind fun r => sts[i]?.map fun st => (numbersOf r.2 st w).isEmpty).getD false
/-- who a word sets free -/
def freeW (rs : List Rw) (sts : List Int) (w : Str) : List Nat := if (holders rs w).any (stuckAt rs sts w) then [] else holders rs w
theorem mem_holders {rs : List Rw} {w : Str} {i : Nat} : i ∈ holders rs w ↔ ∃ r, rs[i]? = some r ∧ w ∈ wordsOf r.2 := by
  unfold holders
  rw [List.mem_filter, List.mem_range]
  constructor
  · rintro ⟨h1, h2⟩
    rw [List.getElem?_eq_getElem h1] at h2
    simp at h2
    exact ⟨rs[i], List.getElem?_eq_getElem h1, h2⟩
  · rintro ⟨r, hr, hw⟩
    refine ⟨(List.getElem?_eq_some_iff.mp hr).1, ?_⟩
    rw [hr]; simpa using hw
theorem numbers_ne {L : List Step} {st : Int} {w : Str} (h : w ∉ wordsOf L) : numbersOf L st w = [none] := by
  unfold numbersOf
  rw [if_neg fun z => h (mem_uniq.mpr z)]
theorem numbers_some {L : List Step} {st : Int} {w : Str} (h : w ∈ wordsOf L) : ∀ o ∈ numbersOf L st w, o.isSome = true := by
  unfold numbersOf
  rw [if_pos (mem_uniq.mp h)]
  intro o ho
  obtain ⟨k, _, rfl⟩ := List.mem_map.mp ho
  rfl
theorem mem_free {rs : List Rw} {sts : List Int} (sl : sts.length = rs.length) {i : Nat} : i ∈ (sysWords rs).flatMap (freeW rs sts) ↔ i ∈ ableN rs sts := by
  unfold ableN
  rw [List.mem_flatMap, List.mem_filter, List.mem_range, List.any_eq_true]
  constructor
  · rintro ⟨w, hw, hf⟩
    unfold freeW at hf
    split at hf
    · cases hf
    · rename_i ns
      obtain ⟨r, hr, hwr⟩ := mem_holders.mp hf
      have il := (List.getElem?_eq_some_iff.mp hr).1
      refine ⟨il, ?_⟩
      have ne : ∀ n ∈ numsAt rs sts w, n ≠ [] := fun n hn e => by
        obtain ⟨j, hj⟩ := List.mem_iff_getElem?.mp hn
        have jl := (List.getElem?_eq_some_iff.mp hj).1
        rw [nums_len sl] at jl
        have hrj : rs[j]? = some rs[j] := List.getElem?_eq_getElem jl
        have hsj : sts[j]? = some (sts[j]'(by omega)) := List.getElem?_eq_getElem _
        have h1 := nums_at (w := w) hrj hsj
        rw [hj] at h1
        have h2 : n = numbersOf rs[j].2 (sts[j]'(by omega)) w := Option.some.inj h1
        by_cases c : w ∈ wordsOf rs[j].2
        · apply ns
          rw [List.any_eq_true]
          refine ⟨j, mem_holders.mpr ⟨_, hrj, c⟩, ?_⟩
          unfold stuckAt
          rw [hrj, hsj]
          simp only [Option.bind_some, Option.map_some, Option.getD_some]
          rw [← h2, e]; rfl
        · rw [numbers_ne c] at h2
          rw [h2] at e; cases e
      obtain ⟨st, hst⟩ : ∃ st, sts[i]? = some st := ⟨sts[i]'(by omega), List.getElem?_eq_getElem _⟩
      have h3 := nums_at (w := w) hr hst
      obtain ⟨o, ho⟩ := List.exists_mem_of_ne_nil _ (ne _ (List.mem_of_getElem? h3))
      obtain ⟨l, hl, hli⟩ := lines_pick _ rfl ne i _ o h3 ho
      refine ⟨(w, l), List.mem_flatMap.mpr ⟨w, hw, List.mem_map.mpr ⟨l, hl, rfl⟩⟩, ?_⟩
      rw [hli]
      exact numbers_some hwr o ho
  · rintro ⟨il, m, hm, hs⟩
    obtain ⟨ml, val⟩ := moves_nums hm sl
    have hri : rs[i]? = some rs[i] := List.getElem?_eq_getElem il
    have hsi : sts[i]? = some (sts[i]'(by omega)) := List.getElem?_eq_getElem _
    obtain ⟨o, ho, mo⟩ := val i _ _ hri hsi
    rw [ho] at hs
    have wi : m.1 ∈ wordsOf rs[i].2 := by
      by_cases c : m.1 ∈ wordsOf rs[i].2
      · exact c
      · rw [numbers_ne c] at mo
        rw [List.mem_singleton.mp mo] at hs
        cases hs
    refine ⟨m.1, moves_word hm, ?_⟩
    unfold freeW
    rw [if_neg]
    · exact mem_holders.mpr ⟨_, hri, wi⟩
    · intro an
      obtain ⟨j, hj, st⟩ := List.any_eq_true.mp an
      obtain ⟨r, hr, _⟩ := mem_holders.mp hj
      have jl := (List.getElem?_eq_some_iff.mp hr).1
      have hsj : sts[j]? = some (sts[j]'(by omega)) := List.getElem?_eq_getElem _
      obtain ⟨o2, _, mo2⟩ := val j _ _ hr hsj
      unfold stuckAt at st
      rw [hr, hsj] at st
      simp only [Option.bind_some, Option.map_some, Option.getD_some] at st
      rw [List.isEmpty_iff.mp st] at mo2
      cases mo2
end Sd
namespace Sd
open PySem PySem.Spec PyProof.Rows L2
/-! ### System.able -/
abbrev natV : List Nat → List V := fun l => (l.map fun k : Nat => (k : Int)).map V.int
def sp_System_able (g : Ga) : Sp := fun vs H Q _ => ∃ (x : Addr) (v : V) (rs : List Rw) (ds sts : List Int), vs = [.ref x, v] ∧ SysAt g H x rs ds ∧ SmallR rs ∧ StAt g.K H v sts ∧ StandI rs sts ∧ ∀ D H', Same H H' → H D = none → H' D = some (.lst ((ableOf rs sts).map V.int)) → Q (.ref D) H'
def t_ab_3 (g : Ga) (E : XK) : TS := (tSeq (tAsg (tLc (iList g.K (tVar 4)) (gName 6) (tNot (tTru g.K (tCall (sp_step_numbers g) [] E0 (tCons (tOp (rIxT g.K) (tFld g.K (tVar 0) "hands") (tVar 6)) (tCons (tOp (rIxT g.K) (tVar 1) (tVar 6)) (tCons (tVar 3) tNil)))))) (tVar 6) [6]) (gName 5)) (tIfS (tNot (tTru g.K (tVar 5))) (tDrop (tBM g.K "list" rExt (tVar 2) (tCons (tVar 4) tNil))) tNext))
def t_ab_2 (g : Ga) (E : XK) : TS := (tSeq (tAsg (tLc (iEnumT g.K (tCons (tFld g.K (tVar 0) "hands") tNil)) (gTup g.K 2 (gCons (gName 6) (gCons (gName 7) gNil))) (tTest (tOp (rIn g.K false) (tVar 3) (tFld g.K (tVar 7) "words"))) (tVar 6) [6, 7]) (gName 4)) (t_ab_3 g E))
def t_ab_1 (g : Ga) (E : XK) : TS := (tSeq (tAsg (tLst tNil) (gName 2)) (tSeq (tFor (iTup g.K (tFld g.K (tVar 0) "words")) (gName 3) (t_ab_2 g E)) (tRet (tCB (rSortedSet g.w) (tCons (tCB (rSetI g.K g.w) (tCons (tVar 2) tNil)) tNil)))))
def t_System_able (g : Ga) (E : XK) : TS := (tSeq (tDrop (tCall (sp_check_standing g) [] E (tCons (tVar 0) (tCons (tVar 1) tNil)))) (t_ab_1 g E))
theorem holders_snoc {rs : List Rw} {w : Str} {i : Nat} {r : Rw} (h : rs[i]? = some r) : ((List.range (i + 1)).filter fun i => (rs[i]?.map fun r => decide (w ∈ wordsOf r.2)).getD false) = ((List.range i).filter fun i => (rs[i]?.map fun r => decide (w ∈ wordsOf r.2)).getD false) ++ if w ∈ wordsOf r.2 then [i] else [] := by
  rw [List.range_succ, List.filter_append, List.filter_cons, List.filter_nil, h]
  simp only [Option.map_some, Option.getD_some]
  by_cases c : w ∈ wordsOf r.2 <;> simp [c]
theorem pure_ab_3 {g : Ga} {E : XK} {D : Ends} {H0 H : Hp} {p5 p6 p7 : Option V} {x a fr hl : Addr} {w : Str} {rs : List Rw} {ds sts : List Int} {fs : List Nat} (TH : HandC g) (T : SysC g) (sm : SmallR rs) (sl : sts.length = rs.length) (s0 : Same H0 H) (hx : SysAt g H0 x rs ds) (ha : SqT g.K H0 a (sts.map V.int)) (nfr : H0 fr = none) (hfr : H fr = some (.lst (natV fs))) (f1 : fs.length ≤ 100) (hhl : H hl = some (.lst (natV (holders rs w))))
    (q : ∀ H' p4 p5, Same H0 H' → H' fr = some (.lst (natV (fs ++ freeW rs sts w))) → D.nx [some (.ref x), some (.ref a), some (.ref fr), some (.str w), p4, p5, p6, p7] H') :
    t_ab_3 g E D [some (.ref x), some (.ref a), some (.ref fr), some (.str w), some (.ref hl), p5, p6, p7] H := by
  obtain ⟨dx, hh, d', w', s', hs, g1, g2, g3, g4, g5, g6⟩ := (SysAt.mono s0 hx).ex
  have lh := g3.length
  have n4 := sm.n4
  have hlen : (holders rs w).length ≤ rs.length := by
    have := List.length_filter_le (fun i => (rs[i]?.map fun r => decide (w ∈ wordsOf r.2)).getD false) (List.range rs.length)
    rwa [List.length_range] at this
  refine ⟨_, rfl, hl, rfl, ⟨_, SqL.of hhl⟩, fun Dl hD => ?_⟩
  refine lc_list (K := g.K) (a := hl) (xs := natV (holders rs w)) (fun k H' => Same H H' ∧ H' Dl = some (.lst (natV (((holders rs w).take k).filter (stuckAt rs sts w))))) ⟨Same.new hD, upd_same⟩ (fun k H' _ z => SqL.of (z.1 _ _ hhl)) ?_ ?_
  · rintro k v H' hv ⟨s1, hD'⟩
    obtain ⟨z, hz, rfl⟩ := map_get hv
    rw [List.getElem?_map] at hz
    obtain ⟨i, hi, rfl⟩ : ∃ i, (holders rs w)[k]? = some i ∧ z = (i : Int) := by
      cases e : (holders rs w)[k]? with
      | none => rw [e] at hz; cases hz
      | some i => rw [e] at hz; exact ⟨i, rfl, by simpa using hz.symm⟩
    obtain ⟨r, hr, hwr⟩ := mem_holders.mp (List.mem_of_getElem? hi)
    have il := (List.getElem?_eq_some_iff.mp hr).1
    obtain ⟨st, hst⟩ : ∃ st, sts[i]? = some st := ⟨sts[i]'(by omega), List.getElem?_eq_getElem _⟩
    have ih : i < hs.length := by omega
    obtain ⟨r', hr', b, eb, hb⟩ := paired_get g3 (List.getElem?_eq_getElem ih)
    rw [hr] at hr'
    cases hr'
    have axh : atI hs ((i : Nat) : Int) = some (.ref b) := atI_nat (by rw [List.getElem?_eq_getElem ih, eb])
    have axs : atI (sts.map V.int) ((i : Nat) : Int) = some (.int st) := atI_nat (by rw [List.getElem?_map, hst]; rfl)
    have rm := List.mem_of_getElem? hr
    refine ⟨rfl, ?_⟩
    refine ⟨_, rfl, x, _, dx, _, _, rfl, s1 _ _ g1, T.cl, T.n1, sfld_hands, _, rfl, hh, hs, _, .ref b, rfl, rfl, Same.tup s1 g2, axh, _, rfl, _, rfl, a, _, _, .int st, rfl, rfl, Same.tup (s0.trans s1) ha, axs, _, rfl, b, st, w, r.1, r.2, rfl, HandAt.mono s1 hb, sm.ll r rm, fun nl H3 s3 nnl hnl => ?_⟩
    refine ⟨_, .inl ⟨_, SqL.of hnl, rfl⟩, ?_⟩
    have es : stuckAt rs sts w i = (numbersOf r.2 st w).isEmpty := by unfold stuckAt; rw [hr, hst]; rfl
    have e1 : ((numbersOf r.2 st w).map optV).isEmpty = stuckAt rs sts w i := by rw [es, List.isEmpty_map]
    rw [e1]
    have tk : ((holders rs w).take (k + 1)).filter (stuckAt rs sts w) = ((holders rs w).take k).filter (stuckAt rs sts w) ++ if stuckAt rs sts w i = true then [i] else [] := by
      rw [List.take_add_one, hi, Option.toList_some, List.filter_append, List.filter_cons, List.filter_nil]
    have tl : (((holders rs w).take k).filter (stuckAt rs sts w)).length ≤ 4 := by
      have h1 := List.length_filter_le (stuckAt rs sts w) ((holders rs w).take k)
      rw [List.length_take] at h1
      omega
    have hD3 := s3 _ _ hD'
    cases c : stuckAt rs sts w i with
    | true =>
      refine iteT ⟨_, rfl, _, hD3, ?_, Same.own (s1.trans s3) hD, ?_⟩
      · rw [List.length_map, List.length_map]; exact small1000 (by omega)
      · rw [upd_same, tk, c, if_pos rfl]
        simp
    | false =>
      refine iteF ⟨s1.trans s3, ?_⟩
      rw [tk, c, if_neg Bool.false_ne_true, List.append_nil]
      exact hD3
  · rintro H' ⟨s1, hD'⟩
    rw [List.length_map, List.length_map, List.take_length] at hD'
    refine ⟨_, rfl, _, .inl ⟨_, SqL.of hD', rfl⟩, ?_⟩
    have e1 : (natV ((holders rs w).filter (stuckAt rs sts w))).isEmpty = !(holders rs w).any (stuckAt rs sts w) := by
      rw [List.isEmpty_map, List.isEmpty_map]
      cases e : (holders rs w).any (stuckAt rs sts w) with
      | true =>
        obtain ⟨j, hj, st⟩ := List.any_eq_true.mp e
        cases e2 : (holders rs w).filter (stuckAt rs sts w) with
        | nil => exact absurd st (by simpa using (List.filter_eq_nil_iff.mp e2) j hj)
        | cons _ _ => rfl
      | false =>
        have : (holders rs w).filter (stuckAt rs sts w) = [] := List.filter_eq_nil_iff.mpr fun j hj st => by
          have := List.any_eq_true.mpr ⟨j, hj, st⟩
          rw [e] at this; cases this
        rw [this]; rfl
    rw [e1]
    have hf' := s1 _ _ hfr
    cases e : (holders rs w).any (stuckAt rs sts w) with
    | true =>
      refine iteF (q H' _ _ (s0.trans s1) ?_)
      unfold freeW
      rw [if_pos e, List.append_nil]
      exact hf'
    | false =>
      refine iteT ⟨_, rfl, .inl ⟨rfl, _, SqL.of hf'⟩, _, rfl, fr, hl, _, _, rfl, rfl, hf', s1 _ _ hhl, ?_, q _ _ _ (Same.own (s0.trans s1) nfr) ?_⟩
      · rw [List.length_map, List.length_map, List.length_map, List.length_map]; exact Nat.le_of_lt (small1000 (by omega))
      · unfold freeW
        rw [upd_same, if_neg (by rw [e]; decide)]
        simp
theorem pure_ab_2 {g : Ga} {E : XK} {D : Ends} {H0 H : Hp} {p4 p5 p6 p7 : Option V} {x a fr : Addr} {w : Str} {rs : List Rw} {ds sts : List Int} {fs : List Nat} (TH : HandC g) (T : SysC g) (sm : SmallR rs) (sl : sts.length = rs.length) (s0 : Same H0 H) (hx : SysAt g H0 x rs ds) (ha : SqT g.K H0 a (sts.map V.int)) (nfr : H0 fr = none) (hfr : H fr = some (.lst (natV fs))) (f1 : fs.length ≤ 100)
    (q : ∀ H' p4 p5, Same H0 H' → H' fr = some (.lst (natV (fs ++ freeW rs sts w))) → D.nx [some (.ref x), some (.ref a), some (.ref fr), some (.str w), p4, p5, p6, p7] H') :
    t_ab_2 g E D [some (.ref x), some (.ref a), some (.ref fr), some (.str w), p4, p5, p6, p7] H := by
  obtain ⟨dx, hh, d', w', s', hs, g1, g2, g3, g4, g5, g6⟩ := (SysAt.mono s0 hx).ex
  have lh := g3.length
  have n4 := sm.n4
  refine ⟨_, rfl, x, _, dx, _, _, rfl, g1, T.cl, T.n1, sfld_hands, hh, hs, rfl, g2, fun Dl hD => ?_⟩
  refine lp_enumT (K := g.K) (a := hh) (xs := hs) (fun i H' => Same H H' ∧ H' Dl = some (.lst (natV ((List.range i).filter fun i => (rs[i]?.map fun r => decide (w ∈ wordsOf r.2)).getD false)))) ⟨Same.new hD, upd_same⟩ (fun i H' _ z => Same.tup z.1 g2) ?_ ?_
  · rintro i y Ta H' hy ⟨s1, hD'⟩ nT
    obtain ⟨r, hr, b, rfl, hb⟩ := paired_get g3 hy
    have il := (List.getElem?_eq_some_iff.mp hr).1
    have s2 : Same H' (upd H' Ta (.tup [.int (i : Nat), .ref b])) := Same.new nT
    obtain ⟨dy, p1, q1, r1, zs, k1, k2, k3, k4, k5⟩ := (HandAt.mono (s1.trans s2) hb).ex
    have hD2 := s2 _ _ hD'
    refine ⟨Ta, _, rfl, SqT.of upd_same, rfl, _, _, rfl, _, _, rfl, rfl, rfl, ?_⟩
    refine ⟨_, rfl, _, rfl, b, _, dy, _, _, rfl, k1, TH.cl, TH.n3, fld_words, q1, _, rfl, .inr k4, rfl, str_flat _, _, rfl, ?_⟩
    rw [if_neg Bool.false_ne_true, inV_str]
    by_cases c : w ∈ wordsOf r.2
    · rw [decide_eq_true c]
      refine iteT ⟨_, rfl, _, hD2, ?_, Same.own (s1.trans s2) hD, ?_⟩
      · rw [List.length_map, List.length_map]
        have := List.length_filter_le (fun i => (rs[i]?.map fun r => decide (w ∈ wordsOf r.2)).getD false) (List.range i)
        rw [List.length_range] at this
        exact small1000 (by omega)
      · rw [upd_same, holders_snoc hr, if_pos c]
        simp
    · rw [decide_eq_false c]
      refine iteF ⟨s1.trans s2, ?_⟩
      rw [holders_snoc hr, if_neg c, List.append_nil]
      exact hD2
  · rintro H' ⟨s1, hD'⟩
    rw [lh] at hD'
    exact pure_ab_3 (E := E) TH T sm sl (s0.trans s1) hx ha nfr (s1 _ _ hfr) f1 hD' q
theorem freeW_len (rs : List Rw) (sts : List Int) (w : Str) : (freeW rs sts w).length ≤ rs.length := by
  unfold freeW
  split
  · simp
  · have := List.length_filter_le (fun i => (rs[i]?.map fun r => decide (w ∈ wordsOf r.2)).getD false) (List.range rs.length)
    rwa [List.length_range] at this
theorem free_len {rs : List Rw} {sts : List Int} (n4 : rs.length ≤ 4) : ∀ ws : List Str, (ws.flatMap (freeW rs sts)).length ≤ 4 * ws.length
  | [] => by simp
  | w :: ws => by
    have h1 := free_len (sts := sts) n4 ws
    have h2 := freeW_len rs sts w
    rw [List.flatMap_cons, List.length_append, List.length_cons]
    omega
theorem pure_System_able {g : Ga} {vs : List V} {H : Hp} {Q : VK} {E : XK} {N : List Str} (TH : HandC g) (T : SysC g) (hN : N.length = 8) (h : sp_System_able g vs H Q E) : t_System_able g E (endsQ Q) (L2.start N vs) H := by
  obtain ⟨x, v, rs, ds, sts, rfl, hx, sm, ⟨a, rfl, ha0⟩, sti, q⟩ := h
  have ha : SqT g.K H a (sts.map V.int) := SqT.of ha0
  have e0 : L2.start N [.ref x, .ref a] = [some (.ref x), some (.ref a), none, none, none, none, none, none] := by unfold L2.start; rw [hN]; rfl
  rw [e0]
  have n4 := sm.n4
  have w12 := sm.w12
  refine ⟨_, rfl, _, rfl, x, .ref a, rs, ds, rfl, hx, by omega, .inr ⟨a, sts.map V.int, rfl, ha, .inr ⟨by rw [List.length_map]; exact sti.len, sts.map some, items_int sts, fun n => absurd sti.st n, fun _ H1 s1 => ?_⟩⟩⟩
  refine ⟨by show 0 ≤ sizeLine; decide, fun fr hfr => ?_⟩
  have nfr : H fr = none := s1.free hfr
  have s2 : Same H (upd H1 fr (.lst [])) := s1.trans (Same.new hfr)
  obtain ⟨dx, hh, d', w', s', hs, g1, g2, g3, g4, g5, g6⟩ := hx.ex
  refine ⟨_, rfl, x, _, dx, _, _, rfl, s2 _ _ g1, T.cl, T.n3, sfld_words, w', rfl, ⟨_, Same.tup s2 g5⟩, ?_⟩
  refine for_tup (K := g.K) (a := w') (xs := (sysWords rs).map V.str) (fun i σ H' => ∃ p3 p4 p5 p6 p7 : Option V, σ = [some (.ref x), some (.ref a), some (.ref fr), p3, p4, p5, p6, p7] ∧ Same H H' ∧ H' fr = some (.lst (natV (((sysWords rs).take i).flatMap (freeW rs sts))))) ⟨_, _, _, _, _, rfl, s2, upd_same⟩ (fun i σ H' _ ⟨_, _, _, _, _, _, z, _⟩ => Same.tup z g5) ?_ ?_
  · rintro i u σ H' hu ⟨p3, p4, p5, p6, p7, rfl, s3, hf⟩
    obtain ⟨w, hw, rfl⟩ := map_get hu
    have fl := free_len (sts := sts) n4 ((sysWords rs).take i)
    rw [List.length_take] at fl
    refine pure_ab_2 TH T sm sti.len s3 hx ha nfr hf (by omega) fun H5 q4 q5 s5 hf5 => ?_
    refine ⟨_, _, _, _, _, rfl, s5, ?_⟩
    rw [List.take_add_one, hw, Option.toList_some, List.flatMap_append, List.flatMap_cons, List.flatMap_nil, List.append_nil]
    exact hf5
  · rintro σ H' ⟨p3, p4, p5, p6, p7, rfl, s3, hf⟩
    rw [List.length_map, List.take_length] at hf
    have fl := free_len (sts := sts) n4 (sysWords rs)
    have hf : H' fr = some (.lst ((((sysWords rs).flatMap (freeW rs sts)).map (fun k : Nat => (k : Int))).map V.int)) := hf
    generalize hfr2 : ((sysWords rs).flatMap (freeW rs sts)).map (fun k : Nat => (k : Int)) = fi at hf
    have fil : fi.length ≤ 48 := by rw [← hfr2, List.length_map]; omega
    refine ⟨_, rfl, fr, fi, rfl, SqL.of hf, by omega, fun S c hc _ hS => ?_⟩
    refine ⟨S, _, c, rfl, upd_same, by omega, fun ns p pw mem _ hp => ?_⟩
    have e : ns = ableOf rs sts := by
      refine ascI_ext pw (ableOf_asc rs sts) fun y => ?_
      rw [mem y, decide_eq_true_eq, ← hfr2]
      unfold ableOf
      rw [List.mem_map, List.mem_map]
      exact ⟨fun ⟨k, hk, e⟩ => ⟨k, (mem_free sti.len).mp hk, e⟩, fun ⟨k, hk, e⟩ => ⟨k, (mem_free sti.len).mpr hk, e⟩⟩
    subst e
    have s4 : Same H' (upd H' S (SetO g.w S (fun j => decide (j ∈ fi)) c)) := Same.new hS
    exact q p _ (s3.trans (s4.trans (Same.new hp))) ((s3.trans s4).free hp) upd_same
end Sd
namespace Sd
open PySem PySem.Spec PyProof.Rows L2
/-- system.able(states) -/
theorem meth_able {g : Ga} {σ : L2.St} {H : Hp} {Q : VK} {E : XK} {i : Nat} {tv : TE} {x : Addr} {v : V} {sts ds : List Int} {rs : List Rw} (h1 : σ[i]? = some (some (.ref x))) (hx : SysAt g H x rs ds) (ht : ∀ Q : VK, Q v H → tv σ H Q) (hv : StAt g.K H v sts) (st : StandI rs sts) (sm : SmallR rs) (q : ∀ D H', Same H H' → H D = none → H' D = some (.lst ((ableOf rs sts).map V.int)) → Q (.ref D) H') :
    tMeth g.cSystem "able" (sp_System_able g) [] E (tVar i) (tCons tv tNil) σ H Q := by
  obtain ⟨dx, h, d, w, s, xs, g1, g2⟩ := hx.ex
  have n1 : (("able" : Str) == "hands") = false := by decide +kernel
  have n2 : (("able" : Str) == "diligent") = false := by decide +kernel
  have n3 : (("able" : Str) == "words") = false := by decide +kernel
  have n4 : (("able" : Str) == "start") = false := by decide +kernel
  refine ⟨_, h1, x, dx, _, rfl, g1, by simp [sysF, List.lookup, n1, n2, n3, n4], ht _ ?_⟩
  exact ⟨x, v, rs, ds, sts, rfl, hx, sm, hv, st, q⟩
/-! ### always_able -/
def allAble (rs : List Rw) (ps : List (List Int)) (h : Int) : Bool := ps.all fun p => decide (h ∈ ableOf rs p)
def sp_always_able (g : Ga) : Sp := fun vs H Q _ => ∃ (x pl : Addr) (h : Int) (rs : List Rw) (ds : List Int) (xs : List V) (ps : List (List Int)), vs = [.ref x, .ref pl, .int h] ∧ SysAt g H x rs ds ∧ SmallR rs ∧ H pl = some (.lst xs) ∧ Paired (StAt g.K H) xs ps ∧ (∀ p ∈ ps, StandI rs p) ∧ ∀ H', Same H H' → Q (.bl (allAble rs ps h)) H'
def t_always_able (g : Ga) (E : XK) : TS := (tSeq (tFor (iList g.K (tVar 1)) (gName 3) (tIfS (tTest (tOp (rIn g.K true) (tVar 2) (tMeth g.cSystem "able" (sp_System_able g) [] E (tVar 0) (tCons (tVar 3) tNil)))) (tRet (tC (.bl false))) tNext)) (tRet (tC (.bl true))))
theorem pure_always_able {g : Ga} {vs : List V} {H : Hp} {Q : VK} {E : XK} {N : List Str} (hN : N.length = 4) (h : sp_always_able g vs H Q E) : t_always_able g E (endsQ Q) (L2.start N vs) H := by
  obtain ⟨x, pl, h, rs, ds, xs, ps, rfl, hx, sm, hpl, hps, sti, q⟩ := h
  have e0 : L2.start N [.ref x, .ref pl, .int h] = [some (.ref x), some (.ref pl), some (.int h), none] := by unfold L2.start; rw [hN]; rfl
  rw [e0]
  have lp := hps.length
  refine ⟨_, rfl, pl, rfl, ⟨_, SqL.of hpl⟩, for_list (K := g.K) (a := pl) (xs := xs) (fun i σ H' => ∃ p3 : Option V, σ = [some (.ref x), some (.ref pl), some (.int h), p3] ∧ Same H H' ∧ allAble rs (ps.take i) h = true) ⟨none, rfl, Same.refl H, rfl⟩ (fun i σ H' _ ⟨_, _, z, _⟩ => SqL.of (z _ _ hpl)) ?_ ?_⟩
  · rintro i v σ H' hv ⟨p3, rfl, s1, al⟩
    obtain ⟨p, hp1, st⟩ := paired_get hps hv
    have pm := List.mem_of_getElem? hp1
    refine t_test ⟨_, rfl, ?_⟩
    refine meth_able (v := v) rfl (hx.mono s1) (fun Q q => ⟨_, rfl, q⟩) (st.mono s1) (sti p pm) sm fun D H2 s2 nD hD => ?_
    refine ⟨D, _, rfl, .inl (SqL.of hD), rfl, int_flat _, _, rfl, ?_⟩
    rw [if_pos rfl, inV_int]
    by_cases c : h ∈ ableOf rs p
    · rw [decide_eq_true c]
      refine iteF ⟨_, rfl, s1.trans s2, ?_⟩
      unfold allAble at al ⊢
      rw [List.take_add_one, hp1, Option.toList_some, List.all_append, al, List.all_cons, List.all_nil, decide_eq_true c]; rfl
    · rw [decide_eq_false c]
      have ff : allAble rs ps h = false := by
        unfold allAble
        rw [List.all_eq_false]
        exact ⟨p, pm, by simpa using c⟩
      have := q H2 (s1.trans s2)
      rw [ff] at this
      exact iteT this
  · rintro σ H' ⟨p3, rfl, s1, al⟩
    rw [lp, List.take_length] at al
    have := q H' s1
    rw [al] at this
    exact this
/-! ### walked -/
def sp_walked (g : Ga) : Sp := fun vs H Q _ => ∃ (x rt : Addr) (rs : List Rw) (ds : List Int) (us : List V) (ms : List Move) (ps : List (List Int)), vs = [.ref x, .ref rt] ∧ SysAt g H x rs ds ∧ SmallR rs ∧ SqT g.K H rt us ∧ Paired (MoveAt g.K H) us ms ∧ WalkOk rs ps ms ∧ ms.length ≤ 5000 ∧ ∀ D xs H', Same H H' → H D = none → H' D = some (.lst xs) → Paired (StAt g.K H') xs ps → Q (.ref D) H'
theorem atI_getLast {xs : List V} {v : V} (h : xs.getLast? = some v) : atI xs (-1) = some v := by
  obtain ⟨ys, rfl⟩ := List.getLast?_eq_some_iff.mp h
  exact atI_last _ _
def t_walked (g : Ga) (E : XK) : TS := (tSeq (tIfS (tNot (tB (tCB (rIsi g.K) (tCons (tVar 1) (tCons (tC (.ty "tuple")) tNil))))) (tRaiseX g.cBadRun "at" E (tCons (tUn rNeg (tC (.int 1))) tNil)) tNext) (tSeq (tAsg (tLst (tCons (tFld g.K (tVar 0) "start") tNil)) (gName 2)) (tSeq (tFor (iEnumT g.K (tCons (tVar 1) tNil)) (gTup g.K 2 (gCons (gName 3) (gCons (gName 4) gNil))) (tSeq (tIfS (tNot (tB (tCall (sp_is_move g) [] E0 (tCons (tVar 0) (tCons (tOp (rIxL g.K) (tVar 2) (tUn rNeg (tC (.int 1)))) (tCons (tVar 4) tNil)))))) (tRaiseX g.cBadRun "at" E (tCons (tVar 3) tNil)) tNext) (tDrop (tBM g.K "list" rApp (tVar 2) (tCons (tCall (sp_led_to g) [] E0 (tCons (tVar 0) (tCons (tOp (rIxL g.K) (tVar 2) (tUn rNeg (tC (.int 1)))) (tCons (tVar 4) tNil)))) tNil))))) (tRet (tVar 2)))))
theorem pure_walked {g : Ga} {vs : List V} {H : Hp} {Q : VK} {E : XK} {N : List Str} (T : SysC g) (hN : N.length = 5) (h : sp_walked g vs H Q E) : t_walked g E (endsQ Q) (L2.start N vs) H := by
  obtain ⟨x, rt, rs, ds, us, ms, ps, rfl, hx, sm, hu, hm, wk, few, q⟩ := h
  have e0 : L2.start N [.ref x, .ref rt] = [some (.ref x), some (.ref rt), none, none, none] := by unfold L2.start; rw [hN]; rfl
  rw [e0]
  have lm := hm.length
  have wl := wk.len
  have n4 := sm.n4
  refine ⟨_, rfl, _, .ty "tuple", _, _, true, rfl, .ty _, st_ty hu, kb (by decide +kernel), true, rfl, iteF ?_⟩
  obtain ⟨dx, hh, d', w', s', hs, g1, g2, g3, g4, g5, g6⟩ := hx.ex
  refine ⟨_, rfl, x, _, dx, _, _, rfl, g1, T.cl, T.n4, sfld_start, by show 1 ≤ sizeLine; decide, fun D hD => ?_⟩
  have s1 : Same H (upd H D (.lst [.ref s'])) := Same.new hD
  refine ⟨_, rfl, rt, us, rfl, Same.tup s1 hu, for_enumT (K := g.K) (a := rt) (xs := us) (fun i σ H' => ∃ (xs : List V) (p3 p4 : Option V), σ = [some (.ref x), some (.ref rt), some (.ref D), p3, p4] ∧ Same H H' ∧ H' D = some (.lst xs) ∧ Paired (StAt g.K H') xs (ps.take (i + 1))) ⟨[.ref s'], none, none, rfl, s1, upd_same, ?_⟩ (fun i σ H' _ ⟨_, _, _, _, z, _⟩ => Same.tup z hu) ?_ ?_⟩
  · have e : ps.take (0 + 1) = [rs.map (·.1)] := by rw [List.take_add_one, List.take_zero, wk.hd]; rfl
    rw [e]
    exact .cons ⟨s', rfl, s1 _ _ g6⟩ .nil
  · rintro i v Ta σ H' hv ⟨xs, p3, p4, rfl, s2, hD', hxs⟩ nT
    obtain ⟨m, hm1, mv⟩ := paired_get hm hv
    have im := (List.getElem?_eq_some_iff.mp hm1).1
    obtain ⟨p, hp1⟩ : ∃ p, ps[i]? = some p := ⟨ps[i]'(by omega), List.getElem?_eq_getElem _⟩
    have sp := wk.st p (List.mem_of_getElem? hp1)
    have mm := wk.mv i m p hm1 hp1
    have nx := wk.nx i m p hm1 hp1
    have s3 : Same H' (upd H' Ta (.tup [.int (i : Nat), v])) := Same.new nT
    have s03 := s2.trans s3
    have lx := hxs.length
    rw [List.length_take] at lx
    -- the last place
    obtain ⟨y, hy, sty⟩ : ∃ y, xs.getLast? = some y ∧ StAt g.K H' y p := by
      have il : i < xs.length := by omega
      obtain ⟨p', hp', z⟩ := paired_get hxs (List.getElem?_eq_getElem il)
      rw [List.getElem?_take_of_lt (by omega), hp1] at hp'
      cases hp'
      refine ⟨xs[i], ?_, z⟩
      rw [List.getLast?_eq_getElem?, show xs.length - 1 = i by omega]
      exact List.getElem?_eq_getElem il
    have ay := atI_getLast hy
    have hD3 := s3 _ _ hD'
    obtain ⟨vl, val⟩ := valid_of mm sp.len
    refine ⟨Ta, _, rfl, SqT.of upd_same, rfl, _, _, rfl, _, _, rfl, rfl, ?_⟩
    refine ⟨_, rfl, _, rfl, 1, rfl, D, xs, _, y, rfl, rfl, SqL.of hD3, ay, _, rfl, x, y, v, rs, ds, p, m, rfl, hx.mono s03, sty.mono s3, mv.mono s03, sp.len, sm, mm, fun H4 s4 => ⟨true, rfl, iteF ?_⟩⟩
    have s04 := s03.trans s4
    have hD4 := s4 _ _ hD3
    refine ⟨_, rfl, .inl ⟨rfl, _, SqL.of hD4⟩, _, rfl, _, rfl, 1, rfl, D, xs, _, y, rfl, rfl, SqL.of hD4, ay, _, rfl, x, y, v, rs, ds, p, m, rfl, hx.mono s04, sty.mono (s3.trans s4), mv.mono s04, sp.len, vl, val, by omega, fun u' H5 s5 hu' => ?_⟩
    have hD5 := s5 _ _ hD4
    refine ⟨D, _, _, rfl, rfl, hD5, big_line (by omega), xs ++ [u'], _, _, rfl, Same.own (s04.trans s5) hD, upd_same, ?_⟩
    rw [List.take_add_one (i := i + 1), nx, Option.toList_some]
    exact paired_app (paired_mono (fun _ _ z => ((z.mono (s3.trans s4)).mono s5).upd hD5) hxs) (.cons (hu'.upd hD5) .nil)
  · rintro σ H' ⟨xs, p3, p4, rfl, s2, hD', hxs⟩
    rw [List.take_of_length_le (by omega)] at hxs
    exact ⟨_, rfl, q D xs H' s2 hD hD' hxs⟩
end Sd
namespace Sd
open PySem PySem.Spec PyProof.Rows L2
/-! ### slices -/
theorem cutV_from {xs : List V} {k : Nat} (h : k ≤ xs.length) : cutV xs (some (k : Int)) none = xs.drop k := by
  unfold cutV
  rw [HT.sIx_nat, HT.sIx_none, Nat.min_eq_left h]
  exact List.take_of_length_le (by rw [List.length_drop]; omega)
theorem cutV_slice {xs : List V} {a b : Nat} (h : b ≤ xs.length) (hab : a ≤ b) : cutV xs (some (a : Int)) (some (b : Int)) = (xs.drop a).take (b - a) := by
  unfold cutV
  rw [HT.sIx_nat, HT.sIx_nat, Nat.min_eq_left h, Nat.min_eq_left (by omega)]
theorem cutV_to {xs : List V} {b : Nat} (h : b ≤ xs.length) : cutV xs none (some (b : Int)) = xs.take b := by
  unfold cutV
  rw [HT.sIx_nat, HT.sIx_none, Nat.min_eq_left h]; rfl
theorem paired_drop {α β : Type} {F : α → β → Prop} : ∀ {l : List α} {m : List β} (k : Nat), Paired F l m → Paired F (l.drop k) (m.drop k)
  | _, _, 0, h => by rw [List.drop_zero, List.drop_zero]; exact h
  | _, _, _ + 1, .nil => .nil
  | _, _, k + 1, .cons a b => by rw [List.drop_succ_cons, List.drop_succ_cons]; exact paired_drop k b
theorem ints_eqv : ∀ p q : List Int, PyData.eqvAll (p.map .int) (q.map .int) = decide (p = q)
  | [], [] => rfl
  | [], _ :: _ => rfl
  | _ :: _, [] => rfl
  | a :: p, b :: q => by
    rw [List.map_cons, List.map_cons]
    unfold PyData.eqvAll
    rw [ints_eqv p q]
    simp only [PyData.eqv]
    by_cases h : a = b
    · by_cases h2 : p = q
      · subst h; subst h2; simp
      · simp [h, h2]
    · simp [h]
theorem st_eqv (p q : List Int) : PyData.eqv (stD p) (stD q) = decide (p = q) := by
  unfold stD PyData.eqv
  exact ints_eqv p q
/-! ### is_fair -/
def fairB (rs : List Rw) (ds : List Int) (ar : List (List Int)) (ms : List Move) : Bool := ds.all fun h => !(allAble rs ar h && !takesB ms h.toNat)
def isFairB (rs : List Rw) (ds : List Int) (ar : List (List Int)) (ms : List Move) : Bool := decide (ar.getLast? = ar[0]?) && fairB rs ds ar ms
def sp_is_fair (g : Ga) : Sp := fun vs H Q _ => ∃ (x st lo : Addr) (rs : List Rw) (ds : List Int) (us1 us2 : List V) (ms1 ms2 : List Move) (ps : List (List Int)), vs = [.ref x, .ref st, .ref lo] ∧ SysAt g H x rs ds ∧ SmallR rs ∧ (∀ d ∈ ds, 0 ≤ d ∧ d < (rs.length : Int)) ∧ SqT g.K H st us1 ∧ SqT g.K H lo us2 ∧ Paired (MoveAt g.K H) us1 ms1 ∧ Paired (MoveAt g.K H) us2 ms2 ∧ WalkOk rs ps (ms1 ++ ms2) ∧ (ms1 ++ ms2).length ≤ 5000 ∧
  ∀ H', Same H H' → Q (.bl (isFairB rs ds (ps.drop ms1.length) ms2)) H'
def t_if_2 (g : Ga) (E : XK) : TS := (tSeq (tFor (iTup g.K (tFld g.K (tVar 0) "diligent")) (gName 5) (tIfS (tAnd (tB (tCall (sp_always_able g) [] E (tCons (tVar 0) (tCons (tVar 4) (tCons (tVar 5) tNil))))) (tNot (tB (tCall (sp_takes_along g) [] E0 (tCons (tVar 2) (tCons (tVar 5) tNil)))))) (tRet (tC (.bl false))) tNext)) (tRet (tC (.bl true))))
def t_if_1 (g : Ga) (E : XK) : TS := (tSeq (tAsg (tSl (rSlL g.K) (tVar 3) (tPart (tCB (rLenS g.K) (tCons (tVar 1) tNil))) tNoPart) (gName 4)) (tSeq (tIfS (tTest (tOp (rNeD g.K) (tOp (rIxL g.K) (tVar 4) (tUn rNeg (tC (.int 1)))) (tOp (rIxL g.K) (tVar 4) (tC (.int 0))))) (tRet (tC (.bl false))) tNext) (t_if_2 g E)))
def t_is_fair (g : Ga) (E : XK) : TS := (tSeq (tIfS (tOr (tNot (tB (tCB (rIsi g.K) (tCons (tVar 1) (tCons (tC (.ty "tuple")) tNil))))) (tNot (tB (tCB (rIsi g.K) (tCons (tVar 2) (tCons (tC (.ty "tuple")) tNil)))))) (tRaiseX g.cBadRun "at" E (tCons (tUn rNeg (tC (.int 1))) tNil)) tNext) (tSeq (tAsg (tCall (sp_walked g) [] E (tCons (tVar 0) (tCons (tOp (rCatA g.K) (tVar 1) (tVar 2)) tNil))) (gName 3)) (t_if_1 g E)))
theorem pure_if_2 {g : Ga} {E : XK} {H : Hp} {Q : VK} {p1 p3 : Option V} {x lo ar : Addr} {rs : List Rw} {ds : List Int} {us2 ax : List V} {ms2 : List Move} {aps : List (List Int)} (T : SysC g) (hx : SysAt g H x rs ds) (sm : SmallR rs) (dok : ∀ d ∈ ds, 0 ≤ d ∧ d < (rs.length : Int)) (hlo : SqT g.K H lo us2) (h2 : Paired (MoveAt g.K H) us2 ms2) (len : ∀ m ∈ ms2, m.2.length = rs.length) (har : H ar = some (.lst ax)) (hap : Paired (StAt g.K H) ax aps) (sti : ∀ p ∈ aps, StandI rs p)
    (q : ∀ H', Same H H' → Q (.bl (fairB rs ds aps ms2)) H') : t_if_2 g E (endsQ Q) [some (.ref x), p1, some (.ref lo), p3, some (.ref ar), none] H := by
  obtain ⟨dx, hh, d', w', s', hs, g1, g2, g3, g4, g5, g6⟩ := hx.ex
  refine ⟨_, rfl, x, _, dx, _, _, rfl, g1, T.cl, T.n2, sfld_diligent, d', rfl, ⟨_, g4⟩, ?_⟩
  refine for_tup (K := g.K) (a := d') (xs := ds.map V.int) (fun i σ H' => ∃ p5 : Option V, σ = [some (.ref x), p1, some (.ref lo), p3, some (.ref ar), p5] ∧ Same H H' ∧ fairB rs (ds.take i) aps ms2 = true) ⟨none, rfl, Same.refl H, rfl⟩ (fun i σ H' _ ⟨_, _, z, _⟩ => Same.tup z g4) ?_ ?_
  · rintro i v σ H' hv ⟨p5, rfl, s1, fb⟩
    obtain ⟨d, hd, rfl⟩ := map_get hv
    have dm := List.mem_of_getElem? hd
    obtain ⟨d0, d1⟩ := dok d dm
    obtain ⟨k, rfl⟩ := Int.eq_ofNat_of_zero_le d0
    have tk : fairB rs (ds.take (i + 1)) aps ms2 = (fairB rs (ds.take i) aps ms2 && !(allAble rs aps (k : Int) && !takesB ms2 k)) := by
      unfold fairB
      rw [List.take_add_one, hd, Option.toList_some, List.all_append, List.all_cons, List.all_nil, Bool.and_true, Int.toNat_natCast]
    have out : ∀ H3, Same H H3 → (allAble rs aps (k : Int) && !takesB ms2 k) = true → Q (.bl false) H3 := fun H3 s3 c => by
      have ff : fairB rs ds aps ms2 = false := by
        unfold fairB
        rw [List.all_eq_false]
        exact ⟨(k : Int), dm, by rw [Int.toNat_natCast, c]; decide⟩
      have := q H3 s3
      rw [ff] at this
      exact this
    refine ⟨_, rfl, _, rfl, _, rfl, x, ar, (k : Int), rs, ds, ax, aps, rfl, hx.mono s1, sm, s1 _ _ har, paired_mono (fun _ _ z => z.mono s1) hap, sti, fun H2 s2 => ⟨_, rfl, ?_⟩⟩
    have s12 := s1.trans s2
    cases ca : allAble rs aps (k : Int) with
    | false => exact iteF (iteF ⟨_, rfl, s12, by rw [tk, fb, ca]; rfl⟩)
    | true =>
      refine iteT ⟨_, rfl, _, rfl, lo, k, us2, ms2, rfl, Same.tup s12 hlo, paired_mono (fun _ _ z => z.mono s12) h2, fun m hm => by rw [len m hm]; omega, fun H3 s3 => ⟨_, rfl, ?_⟩⟩
      have s13 := s12.trans s3
      cases ct : takesB ms2 k with
      | true => exact iteF ⟨_, rfl, s13, by rw [tk, fb, ca, ct]; rfl⟩
      | false => exact iteT (out H3 s13 (by rw [ca, ct]; rfl))
  · rintro σ H' ⟨p5, rfl, s1, fb⟩
    rw [List.length_map, List.take_length] at fb
    have := q H' s1
    rw [fb] at this
    exact this
theorem pure_is_fair {g : Ga} {vs : List V} {H : Hp} {Q : VK} {E : XK} {N : List Str} (T : SysC g) (hN : N.length = 6) (h : sp_is_fair g vs H Q E) : t_is_fair g E (endsQ Q) (L2.start N vs) H := by
  obtain ⟨x, st, lo, rs, ds, us1, us2, ms1, ms2, ps, rfl, hx, sm, dok, h1, h2, m1, m2, wk, few, q⟩ := h
  have e0 : L2.start N [.ref x, .ref st, .ref lo] = [some (.ref x), some (.ref st), some (.ref lo), none, none, none] := by unfold L2.start; rw [hN]; rfl
  rw [e0]
  have l1 := m1.length
  have l2 := m2.length
  have wl := wk.len
  rw [List.length_append] at wl few
  refine ⟨_, rfl, _, .ty "tuple", _, _, true, rfl, .ty _, st_ty h1, kb (by decide +kernel), true, rfl, iteF ?_⟩
  refine ⟨_, rfl, _, .ty "tuple", _, _, true, rfl, .ty _, st_ty h2, kb (by decide +kernel), true, rfl, iteF ?_⟩
  have go : ∀ (rt : Addr) (H1 : Hp), Same H H1 → SqT g.K H1 rt (us1 ++ us2) → sp_walked g [.ref x, .ref rt] H1 (fun v H2 => t_if_1 g E (endsQ Q) [some (.ref x), some (.ref st), some (.ref lo), some v, none, none] H2) E := fun rt H1 s1 hrt => by
    refine ⟨x, rt, rs, ds, us1 ++ us2, ms1 ++ ms2, ps, rfl, hx.mono s1, sm, hrt, paired_mono (fun _ _ z => z.mono s1) (paired_app m1 m2), wk, by rw [List.length_append]; exact few, fun D xs H2 s2 nD hD hxs => ?_⟩
    have s02 := s1.trans s2
    have lx := hxs.length
    refine ⟨_, rfl, _, rfl, st, us1, rfl, .inr (Same.tup s02 h1), _, rfl, D, xs, rfl, SqL.of hD, fun ar har => ?_⟩
    rw [cutV_from (by omega : us1.length ≤ xs.length)]
    have s3 : Same H2 (upd H2 ar (.lst (xs.drop us1.length))) := Same.new har
    have s03 := s02.trans s3
    have hap : Paired (StAt g.K (upd H2 ar (.lst (xs.drop us1.length)))) (xs.drop us1.length) (ps.drop ms1.length) := by
      rw [← l1]
      exact paired_mono (fun _ _ z => z.mono s3) (paired_drop us1.length hxs)
    have lap := hap.length
    rw [List.length_drop, List.length_drop] at lap
    generalize hAX : xs.drop us1.length = ax at hap s3
    generalize hAP : ps.drop ms1.length = aps at hap
    have la : aps.length = ms2.length + 1 := by rw [← hAP, List.length_drop]; omega
    have lax : ax.length = aps.length := hap.length
    obtain ⟨y0, hy0, p0, hp0, st0⟩ : ∃ y, ax[0]? = some y ∧ ∃ p, aps[0]? = some p ∧ StAt g.K (upd H2 ar (.lst ax)) y p := by
      have il : 0 < ax.length := by omega
      obtain ⟨p, hp, z⟩ := paired_get hap (List.getElem?_eq_getElem il)
      exact ⟨_, List.getElem?_eq_getElem il, p, hp, z⟩
    obtain ⟨y1, hy1, q1, hq1, st1⟩ : ∃ y, ax.getLast? = some y ∧ ∃ p, aps.getLast? = some p ∧ StAt g.K (upd H2 ar (.lst ax)) y p := by
      have il : ax.length - 1 < ax.length := by omega
      obtain ⟨p, hp, z⟩ := paired_get hap (List.getElem?_eq_getElem il)
      refine ⟨ax[ax.length - 1], ?_, p, ?_, z⟩
      · rw [List.getLast?_eq_getElem?]; exact List.getElem?_eq_getElem il
      · rw [List.getLast?_eq_getElem?, ← lax]; exact hp
    have eb : isFairB rs ds aps ms2 = (decide (q1 = p0) && fairB rs ds aps ms2) := by
      unfold isFairB
      rw [hq1, hp0]
      simp
    rw [hAX] at s03
    rw [hAP] at q
    refine ⟨_, rfl, 1, rfl, ar, ax, _, y1, rfl, rfl, SqL.of upd_same, atI_getLast hy1, _, rfl, ar, ax, _, y0, rfl, rfl, SqL.of upd_same, atI_nat (j := 0) hy0, stD q1, stD p0, dp_st st1, dp_st st0, st_shaped q1, st_shaped p0, _, rfl, ?_⟩
    rw [st_eqv]
    by_cases c : q1 = p0
    · rw [decide_eq_true c]
      refine iteF (pure_if_2 T (hx.mono s03) sm dok (Same.tup s03 h2) (paired_mono (fun _ _ z => z.mono s03) m2) (fun m hm => ?_) upd_same hap (fun p hp => wk.st p (List.mem_of_mem_drop (by rw [hAP]; exact hp))) fun H4 s4 => ?_)
      · obtain ⟨k, hk⟩ := List.mem_iff_getElem?.mp hm
        have hk2 : (ms1 ++ ms2)[ms1.length + k]? = some m := by rw [List.getElem?_append_right (by omega), Nat.add_sub_cancel_left]; exact hk
        have kl := (List.getElem?_eq_some_iff.mp hk2).1
        rw [List.length_append] at kl
        have hp2 : ps[ms1.length + k]? = some (ps[ms1.length + k]'(by omega)) := List.getElem?_eq_getElem _
        exact (valid_of (wk.mv _ m _ hk2 hp2) (wk.st _ (List.mem_of_getElem? hp2)).len).1
      · have := q H4 (s03.trans s4)
        rw [eb, decide_eq_true c, Bool.true_and] at this
        exact this
    · rw [decide_eq_false c]
      have := q _ s03
      rw [eb, decide_eq_false c, Bool.false_and] at this
      exact iteT this
  refine ⟨_, rfl, _, rfl, _, rfl, st, lo, us1, us2, rfl, rfl, h1, h2, Nat.le_of_lt (big_line (by omega)), fun e => ?_, fun _ e => ?_, fun _ _ p hp => ?_⟩
  · subst e; exact go lo H (Same.refl H) h2
  · subst e; exact go st H (Same.refl H) (by rw [List.append_nil]; exact h1)
  · exact go p _ (Same.new hp) (SqT.of upd_same)
end Sd
namespace Sd
open PySem PySem.Spec PyProof.Rows L2
/-! ### _law_able, _law_once -/
def sp_law_able (g : Ga) : Sp := fun vs H Q _ => ∃ (rl : Addr) (u : V) (rs : List Rw) (sts : List Int), vs = [.ref rl, u] ∧ RowsAt g H rl rs ∧ StAt g.K H u sts ∧ sts.length = rs.length ∧ SmallR rs ∧ (∀ r ∈ rs, r.2.length ≤ 24) ∧ ∀ D H', Same H H' → H D = none → H' D = some (.lst ((ableOf rs sts).map V.int)) → Q (.ref D) H'
def t_law_able (g : Ga) : TS := (tSeq (tAsg (tCall (sp_law_moves g) [] E0 (tCons (tVar 0) (tCons (tVar 1) tNil))) (gName 2)) (tRet (tLc (iRng1 (tCons (tCB (rLenS g.K) (tCons (tVar 0) tNil)) tNil)) (gName 3) (tTest (tOp rGt (tCB (rLenS g.K) (tCons (tLc (iList g.K (tVar 2)) (gName 4) (tTest (tOp rNotN (tOp (rIxT g.K) (tOp (rIxT g.K) (tVar 4) (tC (.int 1))) (tVar 3)) (tC .non))) (tC (.int 1)) [4]) tNil)) (tC (.int 0)))) (tVar 3) [3])))
/-- [1 for move in moves if move[1][at] is not None] -/
theorem lc_ones {g : Ga} {σ : L2.St} {H : Hp} {Q : VK} {c at_ : Nat} {ti : TI} {xs : List V} {ms : List Move} {h : Nat} (hc : c < σ.length) (ha : σ[at_]? = some (some (.int (h : Int)))) (hn : at_ ≠ c) (hm : Paired (MoveAt g.K H) xs ms) (len : ∀ m ∈ ms, h < m.2.length) (few : ms.length ≤ 10000)
    (loop : ∀ (R : It → Hp → Prop), (∀ J : It, (∀ {Fin : Hp → Prop} {B : V → Hp → (Hp → Prop) → Prop} {H0 : Hp} (Pv : Nat → Hp → Prop), Pv 0 H0 → (∀ i H', i ≤ xs.length → Pv i H' → Same H H') → (∀ i x H, xs[i]? = some x → Pv i H → B x H (Pv (i + 1))) → (∀ H, Pv xs.length H → Fin H) →
      ∃ W : Nat → Nat → Hp → Prop, (∃ m, W 0 m H0) ∧ ∀ j k H, W j k H → (J.stop j H ∧ Fin H) ∨ (J.go j H ∧ ∃ Nx : Hp → Prop, (∀ H', Nx H' → ∃ k', k' < k ∧ W (j + 1) k' H') ∧ ∀ x H', J.yld j H x H' → B x H' Nx)) → R J H) → ti σ H R)
    (q : ∀ D ys H', Same H H' → H D = none → H' D = some (.lst ys) → ((0 < ys.length) ↔ takesB ms h = true) → Q (.ref D) H') :
    tLc ti (gName c) (tTest (tOp rNotN (tOp (rIxT g.K) (tOp (rIxT g.K) (tVar c) (tC (.int 1))) (tVar at_)) (tC .non))) (tC (.int 1)) [c] σ H Q := by
  refine loop _ fun J lp D hD => ?_
  have lx := hm.length
  refine lp (fun i H' => Same H H' ∧ ∃ ys, H' D = some (.lst ys) ∧ ys.length ≤ i ∧ ((0 < ys.length) ↔ takesB (ms.take i) h = true)) ⟨Same.new hD, [], upd_same, Nat.le_refl _, by simp [takesB]⟩ (fun i H' _ z => z.1) ?_ ?_
  · rintro i v H' hv ⟨s1, ys, hy, ly, eq⟩
    obtain ⟨m, hm1, ma, mb, rfl, hma, hmb⟩ := paired_get hm hv
    have hl := len m (List.mem_of_getElem? hm1)
    have il := (List.getElem?_eq_some_iff.mp hv).1
    have axm : atI (m.2.map optV) ((h : Nat) : Int) = some (optV m.2[h]) := atI_nat (by rw [List.getElem?_map, List.getElem?_eq_getElem hl]; rfl)
    have o1 : ((wipe σ [c]).set c (some (V.ref ma)))[at_]? = some (some (.int (h : Int))) := by rw [blk_out hn]; exact ha
    have eg : (m.2[h]?.getD none).isSome = (m.2[h]).isSome := by rw [List.getElem?_eq_getElem hl]; rfl
    have tk : takesB (ms.take (i + 1)) h = (takesB (ms.take i) h || (m.2[h]).isSome) := by
      unfold takesB
      rw [List.take_add_one, hm1, Option.toList_some, List.any_append, List.any_cons, List.any_nil, eg, Bool.or_false]
    refine ⟨blk_set _ hc, _, blk_own _ hc, ma, _, _, .ref mb, rfl, rfl, Same.tup s1 hma, rfl, _, o1, mb, _, _, optV m.2[h], rfl, rfl, Same.tup s1 hmb, axm, rfl, _, rfl, ?_⟩
    cases e : m.2[h] with
    | none =>
      refine iteF ⟨s1, ys, hy, by omega, ?_⟩
      rw [tk, e]
      simpa using eq
    | some z =>
      rw [decide_eq_false (show ¬ optV (some z) = V.non from fun z => by cases z)]
      refine iteT ⟨ys, hy, big_line (by omega), Same.own s1 hD, ys ++ [.int 1], upd_same, by simp; omega, ?_⟩
      rw [tk, e]
      simp
  · rintro H' ⟨s1, ys, hy, ly, eq⟩
    rw [lx, List.take_length] at eq
    exact q D ys H' s1 hD hy eq
def sp_law_once (g : Ga) : Sp := fun vs H Q _ => ∃ (pl : Addr) (xs : List V) (ps : List (List Int)), vs = [.ref pl] ∧ H pl = some (.lst xs) ∧ Paired (StAt g.K H) xs ps ∧ ps.length ≤ 5000 ∧ ∀ D ys qs H', Same H H' → H D = none → H' D = some (.lst ys) → Paired (StAt g.K H') ys qs → (∀ p, p ∈ qs ↔ p ∈ ps) → Q (.ref D) H'
def t_law_once (g : Ga) : TS := (tSeq (tAsg (tLst tNil) (gName 1)) (tSeq (tFor (iList g.K (tVar 0)) (gName 2) (tIfS (tTest (tOp (rNotInD g.K) (tVar 2) (tVar 1))) (tDrop (tBM g.K "list" rApp (tVar 1) (tCons (tVar 2) tNil))) tNext)) (tRet (tVar 1))))
theorem any_st (p : List Int) (ps : List (List Int)) : (ps.map stD).any (fun z => z.eqv (stD p)) = decide (p ∈ ps) := by
  induction ps with
  | nil => simp
  | cons a L ih =>
    rw [List.map_cons, List.any_cons, ih, st_eqv]
    by_cases h : a = p
    · subst h; simp
    · have h2 : ¬ p = a := fun z => h z.symm
      simp [h, h2]
theorem pure_law_once {g : Ga} {vs : List V} {H : Hp} {Q : VK} {E : XK} {N : List Str} (hN : N.length = 3) (h : sp_law_once g vs H Q E) : t_law_once g (endsQ Q) (L2.start N vs) H := by
  obtain ⟨pl, xs, ps, rfl, hpl, hps, few, q⟩ := h
  have e0 : L2.start N [.ref pl] = [some (.ref pl), none, none] := by unfold L2.start; rw [hN]; rfl
  rw [e0]
  have lp := hps.length
  refine ⟨by show 0 ≤ sizeLine; decide, fun D hD => ?_⟩
  have s1 : Same H (upd H D (.lst [])) := Same.new hD
  refine ⟨_, rfl, pl, rfl, ⟨_, SqL.of (s1 _ _ hpl)⟩, for_list (K := g.K) (a := pl) (xs := xs) (fun i σ H' => ∃ (ys : List V) (qs : List (List Int)) (p2 : Option V), σ = [some (.ref pl), some (.ref D), p2] ∧ Same H H' ∧ H' D = some (.lst ys) ∧ Paired (StAt g.K H') ys qs ∧ (∀ p, p ∈ qs ↔ p ∈ ps.take i) ∧ qs.length ≤ i) ⟨[], [], none, rfl, s1, upd_same, .nil, (fun p => by simp), Nat.le_refl _⟩ (fun i σ H' _ ⟨_, _, _, _, z, _⟩ => SqL.of (z _ _ hpl)) ?_ ?_⟩
  · rintro i v σ H' hv ⟨ys, qs, p2, rfl, s2, hy, hqs, mem, ql⟩
    obtain ⟨p, hp1, st⟩ := paired_get hps hv
    have il := (List.getElem?_eq_some_iff.mp hv).1
    have lq := hqs.length
    refine ⟨_, rfl, _, rfl, stD p, _, dp_st (st.mono s2), .lst (SqL.of hy) (dp_sts hqs), st_shaped p, sts_shaped qs, _, rfl, ?_⟩
    rw [any_st]
    have tk : ∀ p', p' ∈ ps.take (i + 1) ↔ p' ∈ ps.take i ∨ p' = p := fun p' => by
      rw [List.take_add_one, hp1, Option.toList_some, List.mem_append, List.mem_singleton]
    by_cases c : p ∈ qs
    · rw [decide_eq_true c]
      refine iteF ⟨ys, qs, _, rfl, s2, hy, hqs, fun p' => ?_, by omega⟩
      rw [tk, mem]
      exact ⟨.inl, fun z => z.elim id fun e => by rw [e]; exact (mem p).mp c⟩
    · rw [decide_eq_false c]
      refine iteT ⟨_, rfl, .inl ⟨rfl, _, SqL.of hy⟩, _, rfl, D, _, _, rfl, rfl, hy, big_line (by omega), ?_⟩
      refine ⟨ys ++ [v], qs ++ [p], _, rfl, Same.own s2 hD, upd_same, paired_app (paired_mono (fun _ _ z => z.upd hy) hqs) (.cons ((st.mono s2).upd hy) .nil), fun p' => ?_, by simp; omega⟩
      rw [tk, List.mem_append, List.mem_singleton, mem]
  · rintro σ H' ⟨ys, qs, p2, rfl, s2, hy, hqs, mem, ql⟩
    rw [lp, List.take_length] at mem
    exact ⟨_, rfl, q D ys qs H' s2 hD hy hqs mem⟩
theorem pure_law_able {g : Ga} {vs : List V} {H : Hp} {Q : VK} {E : XK} {N : List Str} (hN : N.length = 5) (h : sp_law_able g vs H Q E) : t_law_able g (endsQ Q) (L2.start N vs) H := by
  obtain ⟨rl, u, rs, sts, rfl, hr, ⟨a, rfl, ha0⟩, sl, sm, r24, q⟩ := h
  have ha : SqT g.K H a (sts.map V.int) := SqT.of ha0
  have e0 : L2.start N [.ref rl, .ref a] = [some (.ref rl), some (.ref a), none, none, none] := by unfold L2.start; rw [hN]; rfl
  rw [e0]
  have n4 := sm.n4
  have ml := movesOf_len (sts := sts) sm
  obtain ⟨rx, hrx, hrp⟩ := hr.ex
  have lrx := hrp.length
  refine ⟨_, rfl, _, rfl, rl, a, rs, sts, rfl, hr, ha, sl, sm, r24, fun mv H1 s1 nmv hmv => ?_⟩
  obtain ⟨xs, hx, hm⟩ := hmv.ex
  refine ⟨_, rfl, rl, rx, rfl, .inl (SqL.of (s1 _ _ hrx)), _, rfl, by omega, by omega, fun D hD => ?_⟩
  rw [Int.toNat_natCast, lrx]
  refine lc_range (n := rs.length) (fun i H' => Same H1 H' ∧ H' D = some (.lst (natV ((List.range i).filter fun i => (movesOf rs sts).any fun m => (m.2[i]?.getD none).isSome)))) ⟨Same.new hD, upd_same⟩ ?_ ?_
  · rintro i H' hi ⟨s2, hD'⟩
    refine ⟨rfl, t_test (e_cb1 ?_)⟩
    refine lc_ones (g := g) (xs := xs) (ms := movesOf rs sts) (h := i) (by show 4 < 5; decide) (by show some (some (V.int (0 + (i : Int)))) = _; rw [Int.zero_add]) (by decide) (paired_mono (fun _ _ z => z.mono s2) hm) (fun m h => by rw [(valid_of h sl).1]; exact hi) (by omega) (fun R r => ⟨_, rfl, mv, rfl, ⟨_, SqL.of (s2 _ _ hx)⟩, r (Itl g.K mv) fun Pv h0 hl hs hd => lp_list (K := g.K) (a := mv) (xs := xs) Pv h0 (fun j H3 hj p => SqL.of (hl j H3 hj p _ _ (s2 _ _ hx))) hs hd⟩) fun D2 ys H3 s3 nD2 hD2 eq => ?_
    refine ⟨D2, ys, rfl, .inl (SqL.of hD2), _, _, rfl, rfl, _, rfl, ?_⟩
    have hD3 := s3 _ _ hD'
    have ll : ((List.range i).filter fun i => (movesOf rs sts).any fun m => (m.2[i]?.getD none).isSome).length ≤ i := by
      have := List.length_filter_le (fun i => (movesOf rs sts).any fun m => (m.2[i]?.getD none).isSome) (List.range i)
      rwa [List.length_range] at this
    have tk : ((List.range (i + 1)).filter fun i => (movesOf rs sts).any fun m => (m.2[i]?.getD none).isSome) = ((List.range i).filter fun i => (movesOf rs sts).any fun m => (m.2[i]?.getD none).isSome) ++ if takesB (movesOf rs sts) i = true then [i] else [] := by
      rw [List.range_succ, List.filter_append, List.filter_cons, List.filter_nil]; rfl
    by_cases c : 0 < ys.length
    · rw [decide_eq_true (show (0 : Int) < (ys.length : Int) by omega)]
      refine iteT ⟨_, rfl, _, hD3, ?_, Same.own (s2.trans s3) hD, ?_⟩
      · rw [List.length_map, List.length_map]; exact small1000 (by omega)
      · rw [upd_same, tk, if_pos (eq.mp c)]
        simp
    · rw [decide_eq_false (show ¬ (0 : Int) < (ys.length : Int) by omega)]
      refine iteF ⟨s2.trans s3, ?_⟩
      rw [tk, if_neg fun z => c (eq.mpr z), List.append_nil]
      exact hD3
  · rintro H' ⟨s2, hD'⟩
    exact q D H' (s1.trans s2) (s1.free hD) hD'
end Sd
namespace Sd
open PySem PySem.Spec PyProof.Rows L2
/-! ### _law_fair -/
theorem allAble_mem {rs : List Rw} {ps qs : List (List Int)} {h : Int} (e : ∀ p, p ∈ qs ↔ p ∈ ps) : allAble rs qs h = allAble rs ps h := by
  unfold allAble
  rw [Bool.eq_iff_iff, List.all_eq_true, List.all_eq_true]
  exact ⟨fun a p hp => a p ((e p).mpr hp), fun a p hp => a p ((e p).mp hp)⟩
def sp_law_fair (g : Ga) : Sp := fun vs H Q _ => ∃ (rl cl pl lo : Addr) (rs : List Rw) (ks : List Int) (xs us : List V) (ps : List (List Int)) (ms : List Move), vs = [.ref rl, .ref cl, .ref pl, .ref lo] ∧ RowsAt g H rl rs ∧ SmallR rs ∧ (∀ r ∈ rs, r.2.length ≤ 24) ∧ H cl = some (.lst (ks.map V.int)) ∧ (∀ d ∈ ks, 0 ≤ d ∧ d < (rs.length : Int)) ∧ H pl = some (.lst xs) ∧ Paired (StAt g.K H) xs ps ∧ (∀ p ∈ ps, p.length = rs.length) ∧ SqT g.K H lo us ∧ Paired (MoveAt g.K H) us ms ∧ (∀ m ∈ ms, m.2.length = rs.length) ∧ ms.length ≤ 10000 ∧
  ∀ H', Same H H' → Q (.bl (fairB rs ks ps ms)) H'
def t_lf_1 (g : Ga) : TS := (tSeq (tFor (iList g.K (tVar 2)) (gName 6) (tIfS (tTest (tOp (rIn g.K true) (tVar 4) (tCall (sp_law_able g) [] E0 (tCons (tVar 0) (tCons (tVar 6) tNil))))) (tAsg (tC (.bl false)) (gName 5)) tNext)) (tIfS (tAnd (tB (tVar 5)) (tTest (tOp rEq (tCB (rLenS g.K) (tCons (tLc (iTup g.K (tVar 3)) (gName 7) (tTest (tOp rNotN (tOp (rIxT g.K) (tOp (rIxT g.K) (tVar 7) (tC (.int 1))) (tVar 4)) (tC .non))) (tC (.int 1)) [7]) tNil)) (tC (.int 0))))) (tRet (tC (.bl false))) tNext))
def t_law_fair (g : Ga) : TS := (tSeq (tFor (iList g.K (tVar 1)) (gName 4) (tSeq (tAsg (tC (.bl true)) (gName 5)) (t_lf_1 g))) (tRet (tC (.bl true))))
theorem pure_law_fair {g : Ga} {vs : List V} {H : Hp} {Q : VK} {E : XK} {N : List Str} (hN : N.length = 8) (h : sp_law_fair g vs H Q E) : t_law_fair g (endsQ Q) (L2.start N vs) H := by
  obtain ⟨rl, cl, pl, lo, rs, ks, xs, us, ps, ms, rfl, hr, sm, r24, hcl, kok, hpl, hps, pok, hlo, hm, mok, few, q⟩ := h
  have e0 : L2.start N [.ref rl, .ref cl, .ref pl, .ref lo] = [some (.ref rl), some (.ref cl), some (.ref pl), some (.ref lo), none, none, none, none] := by unfold L2.start; rw [hN]; rfl
  rw [e0]
  have lp := hps.length
  refine ⟨_, rfl, cl, rfl, ⟨_, SqL.of hcl⟩, for_list (K := g.K) (a := cl) (xs := ks.map V.int) (fun i σ H' => ∃ p4 p5 p6 p7 : Option V, σ = [some (.ref rl), some (.ref cl), some (.ref pl), some (.ref lo), p4, p5, p6, p7] ∧ Same H H' ∧ fairB rs (ks.take i) ps ms = true) ⟨none, none, none, none, rfl, Same.refl H, rfl⟩ (fun i σ H' _ ⟨_, _, _, _, _, z, _⟩ => SqL.of (z _ _ hcl)) ?_ ?_⟩
  · rintro i v σ H' hv ⟨p4, p5, p6, p7, rfl, s1, fb⟩
    obtain ⟨d, hd, rfl⟩ := map_get hv
    have dm := List.mem_of_getElem? hd
    obtain ⟨d0, d1⟩ := kok d dm
    obtain ⟨k, rfl⟩ := Int.eq_ofNat_of_zero_le d0
    have tk : fairB rs (ks.take (i + 1)) ps ms = (fairB rs (ks.take i) ps ms && !(allAble rs ps (k : Int) && !takesB ms k)) := by
      unfold fairB
      rw [List.take_add_one, hd, Option.toList_some, List.all_append, List.all_cons, List.all_nil, Bool.and_true, Int.toNat_natCast]
    have out : ∀ H3, Same H H3 → (allAble rs ps (k : Int) && !takesB ms k) = true → Q (.bl false) H3 := fun H3 s3 c => by
      have ff : fairB rs ks ps ms = false := by
        unfold fairB
        rw [List.all_eq_false]
        exact ⟨(k : Int), dm, by rw [Int.toNat_natCast, c]; decide⟩
      have := q H3 s3
      rw [ff] at this
      exact this
    refine ⟨_, rfl, pl, rfl, ⟨_, SqL.of (s1 _ _ hpl)⟩, for_list (K := g.K) (a := pl) (xs := xs) (fun j σ H2 => ∃ p6 p7 : Option V, σ = [some (.ref rl), some (.ref cl), some (.ref pl), some (.ref lo), some (.int (k : Int)), some (.bl (allAble rs (ps.take j) (k : Int))), p6, p7] ∧ Same H H2) ⟨_, _, rfl, s1⟩ (fun j σ H2 _ ⟨_, _, _, z⟩ => SqL.of (z _ _ hpl)) ?_ ?_⟩
    · rintro j y σ H2 hy ⟨p6, p7, rfl, s2⟩
      obtain ⟨p, hp1, st⟩ := paired_get hps hy
      have tj : allAble rs (ps.take (j + 1)) (k : Int) = (allAble rs (ps.take j) (k : Int) && decide ((k : Int) ∈ ableOf rs p)) := by
        unfold allAble
        rw [List.take_add_one, hp1, Option.toList_some, List.all_append, List.all_cons, List.all_nil, Bool.and_true]
      refine ⟨_, rfl, _, rfl, _, rfl, rl, y, rs, p, rfl, hr.mono s2, st.mono s2, pok p (List.mem_of_getElem? hp1), sm, r24, fun D H3 s3 nD hD => ?_⟩
      refine ⟨D, _, rfl, .inl (SqL.of hD), rfl, int_flat _, _, rfl, ?_⟩
      rw [if_pos rfl, inV_int]
      by_cases c : (k : Int) ∈ ableOf rs p
      · rw [decide_eq_true c]
        refine iteF ⟨some y, p7, ?_, s2.trans s3⟩
        rw [tj, decide_eq_true c, Bool.and_true]; rfl
      · rw [decide_eq_false c]
        refine iteT ⟨some y, p7, ?_, s2.trans s3⟩
        rw [tj, decide_eq_false c, Bool.and_false]; rfl
    · rintro σ H2 ⟨p6, p7, rfl, s2⟩
      rw [lp, List.take_length]
      refine ⟨_, rfl, _, rfl, ?_⟩
      cases ca : allAble rs ps (k : Int) with
      | false => exact iteF (iteF ⟨_, _, _, _, rfl, s2, by rw [tk, fb, ca]; rfl⟩)
      | true =>
        refine iteT (t_test (e_cb1 ?_))
        refine lc_ones (g := g) (xs := us) (ms := ms) (h := k) (by show 7 < 8; decide) rfl (by decide) (paired_mono (fun _ _ z => z.mono s2) hm) (fun m h => by rw [mok m h]; omega) few (fun R r => ⟨_, rfl, lo, rfl, ⟨_, Same.tup s2 hlo⟩, r (Itt g.K lo) fun Pv h0 hl hs hd => lp_tup (K := g.K) (a := lo) (xs := us) Pv h0 (fun j H3 hj p => Same.tup (hl j H3 hj p) (Same.tup s2 hlo)) hs hd⟩) fun D2 ys H3 s3 nD2 hD2 eq => ?_
        refine ⟨D2, ys, rfl, .inl (SqL.of hD2), rfl, _, rfl, ?_⟩
        have s23 := s2.trans s3
        cases ct : takesB ms k with
        | true =>
          have c := eq.mpr ct
          rw [decide_eq_false (show ¬ V.int (ys.length : Int) = V.int 0 from fun z => by injection z; omega)]
          exact iteF ⟨_, _, _, _, rfl, s23, by rw [tk, fb, ca, ct]; rfl⟩
        | false =>
          have c : ys.length = 0 := by
            by_cases z : 0 < ys.length
            · rw [eq.mp z] at ct; cases ct
            · omega
          rw [decide_eq_true (show V.int (ys.length : Int) = V.int 0 by rw [c]; rfl)]
          exact iteT (out H3 s23 (by rw [ca, ct]; rfl))
  · rintro σ H' ⟨p4, p5, p6, p7, rfl, s1, fb⟩
    rw [List.length_map, List.take_length] at fb
    have := q H' s1
    rw [fb] at this
    exact this
end Sd
namespace Sd
open PySem PySem.Spec PyProof.Rows L2
/-! ### _law_due -/
def sp_law_due (g : Ga) : Sp := fun vs H Q _ => ∃ (rl cl pl lo : Addr) (rs : List Rw) (ks : List Int) (xs us : List V) (ps : List (List Int)) (ms : List Move), vs = [.ref rl, .ref cl, .ref pl, .ref lo] ∧ RowsAt g H rl rs ∧ SmallR rs ∧ (∀ r ∈ rs, r.2.length ≤ 24) ∧ H cl = some (.lst (ks.map V.int)) ∧ (∀ d ∈ ks, 0 ≤ d ∧ d < (rs.length : Int)) ∧ H pl = some (.lst xs) ∧ Paired (StAt g.K H) xs ps ∧ (∀ p ∈ ps, p.length = rs.length) ∧ 1 ≤ ps.length ∧ ps.length ≤ 5000 ∧ SqT g.K H lo us ∧ Paired (MoveAt g.K H) us ms ∧ (∀ m ∈ ms, m.2.length = rs.length) ∧ ms.length ≤ 10000 ∧
  ∀ H', Same H H' → Q (.bl (isFairB rs ks ps ms)) H'
def t_law_due (g : Ga) : TS := (tSeq (tIfS (tTest (tOp (rNeD g.K) (tOp (rIxL g.K) (tVar 2) (tC (.int 0))) (tOp (rIxL g.K) (tVar 2) (tUn rNeg (tC (.int 1)))))) (tRet (tC (.bl false))) tNext) (tRet (tCall (sp_law_fair g) [] E0 (tCons (tVar 0) (tCons (tVar 1) (tCons (tCall (sp_law_once g) [] E0 (tCons (tVar 2) tNil)) (tCons (tVar 3) tNil)))))))
theorem pure_law_due {g : Ga} {vs : List V} {H : Hp} {Q : VK} {E : XK} {N : List Str} (hN : N.length = 4) (h : sp_law_due g vs H Q E) : t_law_due g (endsQ Q) (L2.start N vs) H := by
  obtain ⟨rl, cl, pl, lo, rs, ks, xs, us, ps, ms, rfl, hr, sm, r24, hcl, kok, hpl, hps, pok, p1, p5, hlo, hm, mok, few, q⟩ := h
  have e0 : L2.start N [.ref rl, .ref cl, .ref pl, .ref lo] = [some (.ref rl), some (.ref cl), some (.ref pl), some (.ref lo)] := by unfold L2.start; rw [hN]; rfl
  rw [e0]
  have lp := hps.length
  obtain ⟨y0, hy0, q0, hq0, st0⟩ : ∃ y, xs[0]? = some y ∧ ∃ p, ps[0]? = some p ∧ StAt g.K H y p := by
    have il : 0 < xs.length := by omega
    obtain ⟨p, hp, z⟩ := paired_get hps (List.getElem?_eq_getElem il)
    exact ⟨_, List.getElem?_eq_getElem il, p, hp, z⟩
  obtain ⟨y1, hy1, q1, hq1, st1⟩ : ∃ y, xs.getLast? = some y ∧ ∃ p, ps.getLast? = some p ∧ StAt g.K H y p := by
    have il : xs.length - 1 < xs.length := by omega
    obtain ⟨p, hp, z⟩ := paired_get hps (List.getElem?_eq_getElem il)
    refine ⟨xs[xs.length - 1], ?_, p, ?_, z⟩
    · rw [List.getLast?_eq_getElem?]; exact List.getElem?_eq_getElem il
    · rw [List.getLast?_eq_getElem?, ← lp]; exact hp
  have eb : isFairB rs ks ps ms = (decide (q1 = q0) && fairB rs ks ps ms) := by
    unfold isFairB
    rw [hq1, hq0]
    simp
  refine ⟨_, rfl, pl, xs, _, y0, rfl, rfl, SqL.of hpl, atI_nat (j := 0) hy0, _, rfl, 1, rfl, pl, xs, _, y1, rfl, rfl, SqL.of hpl, atI_getLast hy1, stD q0, stD q1, dp_st st0, dp_st st1, st_shaped q0, st_shaped q1, _, rfl, ?_⟩
  rw [st_eqv]
  by_cases c : q0 = q1
  · rw [decide_eq_true c]
    refine iteF ⟨_, rfl, _, rfl, _, rfl, pl, xs, ps, rfl, hpl, hps, p5, fun D ys qs H1 s1 nD hD hqs mem => ?_⟩
    refine ⟨_, rfl, rl, cl, D, lo, rs, ks, ys, us, qs, ms, rfl, hr.mono s1, sm, r24, s1 _ _ hcl, kok, hD, hqs, fun p hp => pok p ((mem p).mp hp), Same.tup s1 hlo, paired_mono (fun _ _ z => z.mono s1) hm, mok, few, fun H2 s2 => ?_⟩
    have ef : fairB rs ks qs ms = fairB rs ks ps ms := by
      unfold fairB
      simp only [allAble_mem mem]
    have := q H2 (s1.trans s2)
    rw [eb, decide_eq_true c.symm, Bool.true_and, ← ef] at this
    exact this
  · rw [decide_eq_false c]
    have := q H (Same.refl H)
    rw [eb, decide_eq_false fun z => c z.symm, Bool.false_and] at this
    exact iteT this
end Sd
namespace Sd
open PySem PySem.Spec PyProof.Rows L2
/-- a slice of a tuple -/
theorem sl_tup {K : PySem.W.Frag} {H : Hp} {Q : VK} {a : Addr} {us : List V} {lo hi : Option Int} (ha : SqT K H a us) (q : ∀ p H', Same H H' → SqT K H' p (cutV us lo hi) → Q (.ref p) H') : rSlA K (.ref a) lo hi H Q := by
  refine ⟨a, us, rfl, ha, fun e => ?_, fun _ p hp => q p _ (Same.new hp) (SqT.of upd_same)⟩
  refine q a H (Same.refl H) ?_
  unfold cutV
  rw [e.1, e.2, List.drop_zero, Nat.sub_zero, List.take_length]
  exact ha
theorem WalkOk.take {rs : List Rw} {ps : List (List Int)} {ms : List Move} (h : WalkOk rs ps ms) {n : Nat} (hn : n ≤ ms.length) : WalkOk rs (ps.take (n + 1)) (ms.take n) := by
  have hl := h.len
  refine ⟨by rw [List.length_take, List.length_take]; omega, fun p hp => h.st p (List.mem_of_mem_take hp), fun k m p hk hp => ?_, ?_, fun k m p hk hp => ?_⟩
  · have k1 : k < n := by
      have := (List.getElem?_eq_some_iff.mp hk).1
      rw [List.length_take] at this; omega
    rw [List.getElem?_take_of_lt k1] at hk
    rw [List.getElem?_take_of_lt (by omega)] at hp
    exact h.mv k m p hk hp
  · rw [List.getElem?_take_of_lt (by omega)]; exact h.hd
  · have k1 : k < n := by
      have := (List.getElem?_eq_some_iff.mp hk).1
      rw [List.length_take] at this; omega
    rw [List.getElem?_take_of_lt k1] at hk
    rw [List.getElem?_take_of_lt (by omega)] at hp
    rw [List.getElem?_take_of_lt (by omega)]
    exact h.nx k m p hk hp
def sp_k20_holds (g : Ga) : Sp := fun vs H Q _ => ∃ (pt rl cl x wt rt pl : Addr) (f l : Nat) (rs : List Rw) (ks : List Int) (us xs : List V) (ms : List Move) (ps : List (List Int)), vs = [.ref pt, .ref x, .ref wt, .int f, .int l] ∧ H pt = some (.tup [.ref rl, .ref cl]) ∧ RowsAt g H rl rs ∧ H cl = some (.lst (ks.map V.int)) ∧ SysAt g H x rs ks ∧ SmallR rs ∧ (∀ r ∈ rs, r.2.length ≤ 24) ∧ (∀ d ∈ ks, 0 ≤ d ∧ d < (rs.length : Int)) ∧ H wt = some (.tup [.ref rt, .ref pl]) ∧ SqT g.K H rt us ∧ Paired (MoveAt g.K H) us ms ∧ H pl = some (.lst xs) ∧ Paired (StAt g.K H) xs ps ∧ WalkOk rs ps ms ∧ ms.length ≤ 1000 ∧ f ≤ l ∧ l ≤ ms.length ∧ ∀ H', Same H H' → Q (.bl true) H'
def t_kh_2 (g : Ga) : TS := (tSeq (tAsg (tCall (sp_law_due g) [] E0 (tCons (tOp (rIxT g.K) (tVar 0) (tC (.int 0))) (tCons (tOp (rIxT g.K) (tVar 0) (tC (.int 1))) (tCons (tSl (rSlL g.K) (tOp (rIxT g.K) (tVar 2) (tC (.int 1))) (tPart (tVar 3)) (tPart (tOp rAdd (tVar 4) (tC (.int 1))))) (tCons (tVar 5) tNil))))) (gName 7)) (tRet (tAndV (tCB (rIsi g.K) (tCons (tVar 6) (tCons (tC (.ty "bool")) tNil))) (tOp rEq (tVar 6) (tVar 7)))))
def t_kh_1 (g : Ga) : TS := (tSeq (tAsg (tCall (sp_is_fair g) [] E0 (tCons (tVar 1) (tCons (tSl (rSlA g.K) (tOp (rIxT g.K) (tVar 2) (tC (.int 0))) tNoPart (tPart (tVar 3))) (tCons (tVar 5) tNil)))) (gName 6)) (t_kh_2 g))
def t_k20__law_holds (g : Ga) : TS := (tSeq (tAsg (tSl (rSlA g.K) (tOp (rIxT g.K) (tVar 2) (tC (.int 0))) (tPart (tVar 3)) (tPart (tVar 4))) (gName 5)) (t_kh_1 g))
theorem pure_k20__law_holds {g : Ga} {vs : List V} {H : Hp} {Q : VK} {E : XK} {N : List Str} (hN : N.length = 8) (h : sp_k20_holds g vs H Q E) : t_k20__law_holds g (endsQ Q) (L2.start N vs) H := by
  obtain ⟨pt, rl, cl, x, wt, rt, pl, f, l, rs, ks, us, xs, ms, ps, rfl, hpt, hr, hcl, hx, sm, r24, kok, hwt, hu, hm, hp, hs, wk, few, fl, lm, q⟩ := h
  have e0 : L2.start N [.ref pt, .ref x, .ref wt, .int f, .int l] = [some (.ref pt), some (.ref x), some (.ref wt), some (.int f), some (.int l), none, none, none] := by unfold L2.start; rw [hN]; rfl
  rw [e0]
  have lu := hm.length
  have lx := hs.length
  have wl := wk.len
  have lenM : ∀ m ∈ ms, m.2.length = rs.length := fun m hm' => by
    obtain ⟨k, hk⟩ := List.mem_iff_getElem?.mp hm'
    have kl := (List.getElem?_eq_some_iff.mp hk).1
    have hp2 : ps[k]? = some (ps[k]'(by omega)) := List.getElem?_eq_getElem _
    exact (valid_of (wk.mv k m _ hk hp2) (wk.st _ (List.mem_of_getElem? hp2)).len).1
  refine ⟨_, rfl, wt, _, _, .ref rt, rfl, rfl, SqT.of hwt, rfl, _, rfl, _, rfl, _, rfl, _, rfl, sl_tup hu fun lo H1 s1 hlo => ?_⟩
  rw [cutV_slice (by omega) fl] at hlo
  have m2 : Paired (MoveAt g.K H1) ((us.drop f).take (l - f)) ((ms.drop f).take (l - f)) := paired_mono (fun _ _ z => z.mono s1) (paired_take _ (paired_drop f hm))
  show t_kh_1 g (endsQ Q) [some (.ref pt), some (.ref x), some (.ref wt), some (.int f), some (.int l), some (.ref lo), none, none] H1
  refine ⟨_, rfl, _, rfl, wt, _, _, .ref rt, rfl, rfl, SqT.of (s1 _ _ hwt), rfl, _, rfl, _, rfl, sl_tup (Same.tup s1 hu) fun st H2 s2 hst => ?_⟩
  rw [cutV_to (by omega)] at hst
  have s02 := s1.trans s2
  have em : ms.take f ++ (ms.drop f).take (l - f) = ms.take l := by
    have := List.take_add (l := ms) (i := f) (j := l - f)
    rw [show f + (l - f) = l by omega] at this
    exact this.symm
  have lf : (ms.take f).length = f := by rw [List.length_take]; omega
  have hsl : Paired (StAt g.K H) ((xs.drop f).take (l + 1 - f)) ((ps.drop f).take (l + 1 - f)) := paired_take _ (paired_drop f hs)
  have ep : (ps.take (l + 1)).drop f = (ps.drop f).take (l + 1 - f) := List.drop_take
  have lps : ((ps.drop f).take (l + 1 - f)).length = l + 1 - f := by rw [List.length_take, List.length_drop]; omega
  refine ⟨_, rfl, x, st, lo, rs, ks, us.take f, (us.drop f).take (l - f), ms.take f, (ms.drop f).take (l - f), ps.take (l + 1), rfl, hx.mono s02, sm, kok, hst, Same.tup s2 hlo, paired_mono (fun _ _ z => z.mono s02) (paired_take f hm), paired_mono (fun _ _ z => z.mono s2) m2, by rw [em]; exact wk.take lm, by rw [em, List.length_take]; omega, fun H3 s3 => ?_⟩
  rw [lf, ep]
  have s03 := s02.trans s3
  refine ⟨_, rfl, pt, _, _, .ref rl, rfl, rfl, SqT.of (s03 _ _ hpt), rfl, _, rfl, pt, _, _, .ref cl, rfl, rfl, SqT.of (s03 _ _ hpt), rfl, _, rfl, wt, _, _, .ref pl, rfl, rfl, SqT.of (s03 _ _ hwt), rfl, _, rfl, _, rfl, _, rfl, _, _, rfl, rfl, _, rfl, pl, xs, rfl, SqL.of (s03 _ _ hp), fun np hnp => ?_⟩
  have el : (l : Int) + 1 = ((l + 1 : Nat) : Int) := by omega
  have s4 : Same H3 (upd H3 np (.lst (cutV xs (some (f : Int)) (some ((l : Int) + 1))))) := Same.new hnp
  have s04 := s03.trans s4
  refine ⟨_, rfl, rl, cl, np, lo, rs, ks, (xs.drop f).take (l + 1 - f), (us.drop f).take (l - f), (ps.drop f).take (l + 1 - f), (ms.drop f).take (l - f), rfl, hr.mono s04, sm, r24, s04 _ _ hcl, kok, by rw [upd_same, el, cutV_slice (by omega) (by omega)], paired_mono (fun _ _ z => z.mono s04) hsl, fun p hp' => (wk.st p (List.mem_of_mem_drop (List.mem_of_mem_take hp'))).len, by omega, by omega, Same.tup (s2.trans (s3.trans s4)) hlo, paired_mono (fun _ _ z => z.mono (s2.trans (s3.trans s4))) m2, fun m h => lenM m (List.mem_of_mem_drop (List.mem_of_mem_take h)), by rw [List.length_take, List.length_drop]; omega, fun H5 s5 => ?_⟩
  refine ⟨_, rfl, _, .ty "bool", _, _, true, rfl, .ty _, .base (.bl _), kb (by decide +kernel), true, rfl, iteT ⟨_, rfl, _, rfl, rfl, ?_⟩⟩
  have := q H5 (s04.trans s5)
  rw [decide_eq_true rfl]
  exact this
end Sd
namespace Sd
open PySem PySem.Spec PyProof.Rows L2
/-! ### _law_cut -/
def sp_law_cut (g : Ga) : Sp := fun vs H Q _ => ∃ (pp wt rt pl : Addr) (o : HO) (xs : List V) (ps : List (List Int)), vs = [.ref pp, .ref wt] ∧ H pp = some o ∧ PoolO o ∧ H wt = some (.tup [.ref rt, .ref pl]) ∧ H pl = some (.lst xs) ∧ pl ≠ pp ∧ Paired (StAt g.K H) xs ps ∧ 1 ≤ ps.length ∧ ps.length ≤ 5000 ∧
  ∀ (t : Addr) (f l : Nat) (o' : HO) (H' : Hp), Ch [pp] H H' → H' pp = some o' → PoolO o' → H' t = some (.tup [.int f, .int l]) → f ≤ l → l < ps.length → ps[f]? = ps[l]? → Q (.ref t) H'
def t_lc_2 (g : Ga) : TS := (tSeq (tAsg (tOp (rIxL g.K) (tVar 3) (tCall (sp_law_draw g) [] E0 (tCons (tVar 0) (tCons (tCB (rLenS g.K) (tCons (tVar 3) tNil)) tNil)))) (gName 4)) (tRet (tTup (tCons (tVar 2) (tCons (tVar 4) tNil)))))
def t_lc_1 (g : Ga) : TS := (tSeq (tAsg (tLc (iRng2 (tCons (tVar 2) (tCons (tCB (rLenS g.K) (tCons (tOp (rIxT g.K) (tVar 1) (tC (.int 1))) tNil)) tNil))) (gName 5) (tTest (tOp (rEqD g.K) (tOp (rIxL g.K) (tOp (rIxT g.K) (tVar 1) (tC (.int 1))) (tVar 5)) (tOp (rIxL g.K) (tOp (rIxT g.K) (tVar 1) (tC (.int 1))) (tVar 2)))) (tVar 5) [5]) (gName 3)) (t_lc_2 g))
def t_law_cut (g : Ga) : TS := (tSeq (tAsg (tCall (sp_law_draw g) [] E0 (tCons (tVar 0) (tCons (tCB (rLenS g.K) (tCons (tOp (rIxT g.K) (tVar 1) (tC (.int 1))) tNil)) tNil))) (gName 2)) (t_lc_1 g))
theorem pure_law_cut {g : Ga} {vs : List V} {H : Hp} {Q : VK} {E : XK} {N : List Str} (hN : N.length = 6) (h : sp_law_cut g vs H Q E) : t_law_cut g (endsQ Q) (L2.start N vs) H := by
  obtain ⟨pp, wt, rt, pl, o, xs, ps, rfl, hpp, po, hwt, hpl, npl, hs, p1, p5, q⟩ := h
  have e0 : L2.start N [.ref pp, .ref wt] = [some (.ref pp), some (.ref wt), none, none, none, none] := by unfold L2.start; rw [hN]; rfl
  rw [e0]
  have lx := hs.length
  have big : (10000 : Int) ≤ 26 ^ 12 := by decide
  have nwt : wt ≠ pp := fun z => by
    rw [z, hpp] at hwt
    obtain ⟨ys, e⟩ := pool_lst po
    rw [e] at hwt; cases hwt
  refine ⟨_, rfl, _, rfl, wt, _, _, .ref pl, rfl, rfl, SqT.of hwt, rfl, pl, xs, rfl, .inl (SqL.of hpl), pp, o, xs.length, rfl, hpp, po, by omega, by omega, fun d o1 d0 d1 po1 => ?_⟩
  obtain ⟨f, rfl⟩ := Int.eq_ofNat_of_zero_le d0
  have fl : f < xs.length := by omega
  obtain ⟨ys0, eo⟩ := pool_lst po
  rw [eo] at hpp
  generalize hH1 : upd H pp o1 = H1
  have hwt1 : H1 wt = some (.tup [.ref rt, .ref pl]) := by rw [← hH1, upd_ne nwt]; exact hwt
  have hpl1 : H1 pl = some (.lst xs) := by rw [← hH1, upd_ne npl]; exact hpl
  have hs1 : Paired (StAt g.K H1) xs ps := by rw [← hH1]; exact paired_mono (fun _ _ z => z.upd hpp) hs
  have hpp1 : H1 pp = some o1 := by rw [← hH1]; exact upd_same
  have ch1 : Ch [pp] H H1 := by rw [← hH1]; exact (Ch.refl H).at (by simp)
  show t_lc_1 g (endsQ Q) [some (.ref pp), some (.ref wt), some (.int (f : Int)), none, none, none] H1
  refine ⟨_, rfl, _, rfl, wt, _, _, .ref pl, rfl, rfl, SqT.of hwt1, rfl, pl, xs, rfl, .inl (SqL.of hpl1), _, _, rfl, ⟨by omega, by omega, by omega, by omega⟩, fun D hD => ?_⟩
  rw [show ((xs.length : Int) - (f : Int)).toNat = xs.length - f by omega]
  have at1 : ∀ i : Nat, i < xs.length → atI xs (i : Int) = some (xs.getD i .non) := fun i hi => by
    refine atI_nat ?_
    rw [List.getD_eq_getElem?_getD, List.getElem?_eq_getElem hi]; rfl
  have stg : ∀ i : Nat, i < xs.length → ∃ p, ps[i]? = some p ∧ StAt g.K H1 (xs.getD i .non) p := fun i hi => by
    obtain ⟨p, hp, z⟩ := paired_get hs1 (List.getElem?_eq_getElem hi)
    refine ⟨p, hp, ?_⟩
    rw [List.getD_eq_getElem?_getD, List.getElem?_eq_getElem hi]; exact z
  obtain ⟨pf, hpf, stf⟩ := stg f fl
  refine lc_range (lo := (f : Int)) (n := xs.length - f) (fun i H' => Same H1 H' ∧ ∃ bs : List Nat, H' D = some (.lst (natV bs)) ∧ (∀ b ∈ bs, f ≤ b ∧ b < xs.length ∧ ps[b]? = some pf) ∧ (1 ≤ i → 1 ≤ bs.length) ∧ bs.length ≤ i) ⟨Same.new hD, [], upd_same, (fun b h => by cases h), by omega, Nat.le_refl _⟩ ?_ ?_
  · rintro i H' hi ⟨s1, bs, hb, rng, one, bl⟩
    obtain ⟨pk, hpk, stk⟩ := stg (f + i) (by omega)
    have ek : (f : Int) + (i : Int) = ((f + i : Nat) : Int) := by omega
    refine ⟨rfl, _, rfl, wt, _, _, .ref pl, rfl, rfl, SqT.of (s1 _ _ hwt1), rfl, _, rfl, pl, xs, _, _, rfl, rfl, SqL.of (s1 _ _ hpl1), by rw [ek]; exact at1 (f + i) (by omega), _, rfl, wt, _, _, .ref pl, rfl, rfl, SqT.of (s1 _ _ hwt1), rfl, _, rfl, pl, xs, _, _, rfl, rfl, SqL.of (s1 _ _ hpl1), at1 f fl, stD pk, stD pf, dp_st (stk.mono s1), dp_st (stf.mono s1), st_shaped pk, st_shaped pf, _, rfl, ?_⟩
    rw [st_eqv]
    by_cases c : pk = pf
    · rw [decide_eq_true c]
      refine iteT ⟨_, rfl, _, hb, by rw [List.length_map, List.length_map]; exact big_line (by omega), Same.own s1 hD, bs ++ [f + i], ?_, fun b hb' => ?_, fun _ => by simp, by simp; omega⟩
      · rw [upd_same, ek]; simp
      · rcases List.mem_append.mp hb' with z | z
        · exact rng b z
        · rw [List.mem_singleton.mp z]; exact ⟨by omega, by omega, by rw [hpk, c]⟩
    · rw [decide_eq_false c]
      refine iteF ⟨s1, bs, hb, rng, fun _ => ?_, by omega⟩
      by_cases z : i = 0
      · subst z
        rw [Nat.add_zero] at hpk
        rw [hpf] at hpk
        exact absurd (Option.some.inj hpk).symm c
      · exact one (by omega)
  · rintro H' ⟨s1, bs, hb, rng, one, bl⟩
    have b1 := one (by omega)
    show t_lc_2 g (endsQ Q) [some (.ref pp), some (.ref wt), some (.int (f : Int)), some (.ref D), none, none] H'
    have hpp2 := s1 _ _ hpp1
    have nDp : D ≠ pp := fun z => by rw [z, hpp1] at hD; cases hD
    refine s_asg (pickB rfl rfl (SqL.of hb) hpp2 po1 nDp (by rw [List.length_map, List.length_map]; omega) (by rw [List.length_map, List.length_map]; omega) fun k v o2 hk po2 => ?_)
    obtain ⟨z, hz, rfl⟩ := map_get hk
    rw [List.getElem?_map] at hz
    obtain ⟨b, hb1, rfl⟩ : ∃ b, bs[k]? = some b ∧ z = (b : Int) := by
      cases e : bs[k]? with
      | none => rw [e] at hz; cases hz
      | some b => rw [e] at hz; exact ⟨b, rfl, by simpa using hz.symm⟩
    obtain ⟨r1, r2, r3⟩ := rng b (List.mem_of_getElem? hb1)
    refine ⟨_, rfl, _, rfl, by show 2 ≤ sizeLine; decide, fun t ht => ?_⟩
    have s5 : Same (upd H' pp o2) (upd (upd H' pp o2) t (.tup [.int (f : Int), .int (b : Int)])) := Same.new ht
    exact q t f b o2 _ (((ch1.trans (Ch.same s1)).at (by simp)).trans (Ch.same s5)) (s5 _ _ upd_same) po2 upd_same r1 (by omega) (hpf.trans r3.symm)
end Sd
namespace Sd
open PySem PySem.Spec PyProof.Rows L2
theorem Same.ch {B H H' : Hp} {p : Addr} (s : Same B H) (n : B p = none) (c : Ch [p] H H') : Same B H' := fun b o e => c b o (s b o e) fun m => by
  rw [List.mem_singleton] at m
  rw [m, n] at e; cases e
/-- what the laws of runs hold in their hands: rows, chosen hands, the system, a walk -/
structure RunB (g : Ga) (B : Hp) (pt rl cl x wt rt pl : Addr) (rs : List Rw) (ks : List Int) (us xs : List V) (ms : List Move) (ps : List (List Int)) : Prop where
  hpt : B pt = some (.tup [.ref rl, .ref cl])
  hr : RowsAt g B rl rs
  hcl : B cl = some (.lst (ks.map V.int))
  hx : SysAt g B x rs ks
  sm : SmallR rs
  r24 : ∀ r ∈ rs, r.2.length ≤ 24
  kok : ∀ d ∈ ks, 0 ≤ d ∧ d < (rs.length : Int)
  hwt : B wt = some (.tup [.ref rt, .ref pl])
  hu : SqT g.K B rt us
  hm : Paired (MoveAt g.K B) us ms
  hp : B pl = some (.lst xs)
  hs : Paired (StAt g.K B) xs ps
  wk : WalkOk rs ps ms
  few : ms.length ≤ 1000
/-! ### statements entered -/
theorem s_nif {te : TE} {a u : TS} {D : Ends} {σ : L2.St} {H : Hp} (h : te σ H fun v H1 => ∃ k, v = .bl k ∧ if (!k) = true then a { nx := u D, rt := D.rt, bk := D.bk, ct := D.ct } σ H1 else u D σ H1) : tSeq (tIfS (tNot (tB te)) a tNext) u D σ H := h
theorem s_nif1 {te : TE} {a : TS} {D : Ends} {σ : L2.St} {H : Hp} (h : te σ H fun v H1 => ∃ k, v = .bl k ∧ if (!k) = true then a D σ H1 else D.nx σ H1) : tIfS (tNot (tB te)) a tNext D σ H := h
theorem s_rt {te : TE} {D : Ends} {σ : L2.St} {H : Hp} (h : te σ H D.rt) : tRet te D σ H := h
theorem t_and {ta tb : TE} {σ : L2.St} {H : Hp} {Q : VK} (h : ta σ H fun v H1 => ∃ k, v = .bl k ∧ if k = true then tb σ H1 Q else Q (.bl false) H1) : tAndV ta tb σ H Q := h
theorem RunB.holds {g : Ga} {B H : Hp} {Q : VK} {E : XK} {σ : L2.St} {ta : TA} {pt rl cl x wt rt pl : Addr} {rs : List Rw} {ks : List Int} {us xs : List V} {ms : List Move} {ps : List (List Int)} (h : RunB g B pt rl cl x wt rt pl rs ks us xs ms ps) (s : Same B H) {f l : Nat} (fl : f ≤ l) (lm : l ≤ ms.length) (ha : ∀ R : List V → Hp → Prop, R [.ref pt, .ref x, .ref wt, .int f, .int l] H → ta σ H R) (q : ∀ H', Same H H' → Q (.bl true) H') : tCall (sp_k20_holds g) [] E ta σ H Q :=
  ha _ ⟨pt, rl, cl, x, wt, rt, pl, f, l, rs, ks, us, xs, ms, ps, rfl, s _ _ h.hpt, h.hr.mono s, s _ _ h.hcl, h.hx.mono s, h.sm, h.r24, h.kok, s _ _ h.hwt, Same.tup s h.hu, paired_mono (fun _ _ z => z.mono s) h.hm, s _ _ h.hp, paired_mono (fun _ _ z => z.mono s) h.hs, h.wk, h.few, fl, lm, q⟩
def sp_k20_law (g : Ga) : Sp := fun vs H Q _ => ∃ (a : Addr) (ns : List Int), vs = [.ref a] ∧ SqL g.K H a (ns.map V.int) ∧ ns.length ≤ 63 ∧ ∀ H', Q (.bl true) H'
def t_k20_5 (g : Ga) : TS := (tIfS (tNot (tB (tCall (sp_k20_holds g) [] E0 (tCons (tVar 1) (tCons (tVar 2) (tCons (tVar 3) (tCons (tOp (rIxT g.K) (tVar 7) (tC (.int 0))) (tCons (tVar 8) tNil)))))))) (tRet (tC (.bl false))) tNext)
def t_k20_6 (g : Ga) : TS := (tRet (tAndV (tCall (sp_k20_holds g) [] E0 (tCons (tVar 1) (tCons (tVar 2) (tCons (tVar 3) (tCons (tVar 5) (tCons (tVar 5) tNil)))))) (tCall (sp_k20_holds g) [] E0 (tCons (tVar 1) (tCons (tVar 2) (tCons (tVar 3) (tCons (tC (.int 0)) (tCons (tC (.int 0)) tNil))))))))
def t_k20_4 (g : Ga) : TS := (tSeq (tAsg (tOp rAdd (tOp (rIxT g.K) (tVar 7) (tC (.int 0))) (tCall (sp_law_draw g) [] E0 (tCons (tVar 4) (tCons (tOp rAdd (tOp rSub (tVar 5) (tOp (rIxT g.K) (tVar 7) (tC (.int 0)))) (tC (.int 1))) tNil)))) (gName 8)) (t_k20_5 g))
def t_k20_3 (g : Ga) : TS := (tSeq (tIfS (tNot (tB (tCall (sp_k20_holds g) [] E0 (tCons (tVar 1) (tCons (tVar 2) (tCons (tVar 3) (tCons (tOp (rIxT g.K) (tVar 7) (tC (.int 0))) (tCons (tOp (rIxT g.K) (tVar 7) (tC (.int 1))) tNil)))))))) (tRet (tC (.bl false))) tNext) (tSeq (tIfS (tNot (tB (tCall (sp_k20_holds g) [] E0 (tCons (tVar 1) (tCons (tVar 2) (tCons (tVar 3) (tCons (tOp (rIxT g.K) (tVar 7) (tC (.int 0))) (tCons (tOp (rIxT g.K) (tVar 7) (tC (.int 0))) tNil)))))))) (tRet (tC (.bl false))) tNext) (t_k20_4 g)))
def t_k20_2 (g : Ga) : TS := (tSeq (tAsg (tCall (sp_law_cut g) [] E0 (tCons (tVar 4) (tCons (tVar 3) tNil))) (gName 7)) (t_k20_3 g))
def t_k20_1 (g : Ga) : TS := (tSeq (tFor (iRng1 (tCons (tC (.int 3)) tNil)) (gName 6) (t_k20_2 g)) (t_k20_6 g))
def t_k20_law (g : Ga) : TS := (tSeq (tAsg (tCall (sp_law_rows g) [] E0 (tCons (tVar 0) (tCons (tC (.int 3)) (tCons (tC (.int 4)) (tCons (tC (.int 3)) (tCons (tC (.int 5)) tNil)))))) (gName 1)) (tSeq (tAsg (tCall (sp_law_system g) [] E0 (tCons (tOp (rIxT g.K) (tVar 1) (tC (.int 0))) (tCons (tOp (rIxT g.K) (tVar 1) (tC (.int 1))) tNil))) (gName 2)) (tSeq (tAsg (tCall (sp_law_walk g) [] E0 (tCons (tOp (rIxT g.K) (tVar 1) (tC (.int 0))) (tCons (tSl (rSlL g.K) (tVar 0) (tPart (tC (.int 5))) tNoPart) tNil))) (gName 3)) (tSeq (tAsg (tCall (sp_law_pool g) [] E0 (tCons (tCall (sp_law_cell g) [] E0 (tCons (tVar 0) (tCons (tC (.int 4)) tNil))) tNil)) (gName 4)) (tSeq (tAsg (tCB (rLenS g.K) (tCons (tOp (rIxT g.K) (tVar 3) (tC (.int 0))) tNil)) (gName 5)) (t_k20_1 g))))))
theorem pure_k20_2 {g : Ga} {B H : Hp} {D : Ends} {p0 p6 p7 p8 : Option V} {pp pt rl cl x wt rt pl : Addr} {o : HO} {rs : List Rw} {ks : List Int} {us xs : List V} {ms : List Move} {ps : List (List Int)} (h : RunB g B pt rl cl x wt rt pl rs ks us xs ms ps) (s : Same B H) (npp : B pp = none) (hpp : H pp = some o) (po : PoolO o)
    (q : ∀ H' o' p7 p8, Same B H' → H' pp = some o' → PoolO o' → D.nx [p0, some (.ref pt), some (.ref x), some (.ref wt), some (.ref pp), some (.int ms.length), p6, p7, p8] H') :
    t_k20_2 g D [p0, some (.ref pt), some (.ref x), some (.ref wt), some (.ref pp), some (.int ms.length), p6, p7, p8] H := by
  have wl := h.wk.len
  have few := h.few
  have big : (10000 : Int) ≤ 26 ^ 12 := by decide
  have npl : pl ≠ pp := fun z => by rw [← z, h.hp] at npp; cases npp
  refine ⟨_, rfl, _, rfl, pp, wt, rt, pl, o, xs, ps, rfl, hpp, po, s _ _ h.hwt, s _ _ h.hp, npl, paired_mono (fun _ _ z => z.mono s) h.hs, by omega, by omega, fun t f l o1 H1 ch hp1 po1 ht fl lp _ => ?_⟩
  have s1 := Same.ch s npp ch
  show t_k20_3 g D [p0, some (.ref pt), some (.ref x), some (.ref wt), some (.ref pp), some (.int ms.length), p6, some (.ref t), p8] H1
  refine s_nif (h.holds s1 fl (by omega) (fun R r => ⟨_, rfl, _, rfl, _, rfl, _, rfl, t, _, _, .int f, rfl, rfl, SqT.of ht, rfl, _, rfl, t, _, _, .int l, rfl, rfl, SqT.of ht, rfl, r⟩) fun H2 s2 => ⟨true, rfl, iteF ?_⟩)
  have ht2 := s2 _ _ ht
  have s02 := s1.trans s2
  refine s_nif (h.holds s02 (Nat.le_refl f) (by omega) (fun R r => ⟨_, rfl, _, rfl, _, rfl, _, rfl, t, _, _, .int f, rfl, rfl, SqT.of ht2, rfl, _, rfl, t, _, _, .int f, rfl, rfl, SqT.of ht2, rfl, r⟩) fun H3 s3 => ⟨true, rfl, iteF ?_⟩)
  have ht3 := s3 _ _ ht2
  have s03 := s02.trans s3
  have hp3 := s3 _ _ (s2 _ _ hp1)
  show t_k20_4 g D [p0, some (.ref pt), some (.ref x), some (.ref wt), some (.ref pp), some (.int ms.length), p6, some (.ref t), p8] H3
  refine ⟨_, rfl, t, _, _, .int f, rfl, rfl, SqT.of ht3, rfl, _, rfl, _, rfl, _, rfl, t, _, _, .int f, rfl, rfl, SqT.of ht3, rfl, _, _, rfl, rfl, _, _, rfl, rfl, pp, o1, _, rfl, hp3, po1, by omega, by omega, fun d o2 d0 d1 po2 => ?_⟩
  obtain ⟨k, rfl⟩ := Int.eq_ofNat_of_zero_le d0
  have nt : t ≠ pp := fun z => by
    rw [z, hp1] at ht
    obtain ⟨ys, e⟩ := pool_lst po1
    rw [e] at ht; cases ht
  refine ⟨_, _, rfl, rfl, ?_⟩
  have s04 : Same B (upd H3 pp o2) := Same.own s03 npp
  have ht4 : (upd H3 pp o2) t = some (.tup [.int f, .int l]) := by rw [upd_ne nt]; exact ht3
  have ek : (f : Int) + (k : Int) = ((f + k : Nat) : Int) := by omega
  have hp4 : (upd H3 pp o2) pp = some o2 := upd_same
  generalize upd H3 pp o2 = H4 at s04 ht4 hp4
  show t_k20_5 g D [p0, some (.ref pt), some (.ref x), some (.ref wt), some (.ref pp), some (.int ms.length), p6, some (.ref t), some (.int ((f : Int) + (k : Int)))] H4
  rw [ek]
  refine s_nif1 (h.holds s04 (f := f) (l := f + k) (by omega) (by omega) (fun R r => ⟨_, rfl, _, rfl, _, rfl, _, rfl, t, _, _, .int f, rfl, rfl, SqT.of ht4, rfl, _, rfl, r⟩) fun H5 s5 => ⟨true, rfl, iteF (q H5 o2 _ _ (s04.trans s5) (s5 _ _ hp4) po2)⟩)
theorem pure_k20_1 {g : Ga} {B H : Hp} {Q : VK} {p0 : Option V} {pp pt rl cl x wt rt pl : Addr} {o : HO} {rs : List Rw} {ks : List Int} {us xs : List V} {ms : List Move} {ps : List (List Int)} (h : RunB g B pt rl cl x wt rt pl rs ks us xs ms ps) (s : Same B H) (npp : B pp = none) (hpp : H pp = some o) (po : PoolO o) (q : ∀ H', Q (.bl true) H') :
    t_k20_1 g (endsQ Q) [p0, some (.ref pt), some (.ref x), some (.ref wt), some (.ref pp), some (.int ms.length), none, none, none] H := by
  refine ⟨_, rfl, by decide, by decide, for_range (n := 3) (fun i σ H' => ∃ p6 p7 p8 : Option V, σ = [p0, some (.ref pt), some (.ref x), some (.ref wt), some (.ref pp), some (.int ms.length), p6, p7, p8] ∧ Same B H' ∧ ∃ o, H' pp = some o ∧ PoolO o) ⟨none, none, none, rfl, s, o, hpp, po⟩ ?_ ?_⟩
  · rintro i σ H' hi ⟨p6, p7, p8, rfl, s1, o1, hp1, po1⟩
    exact pure_k20_2 h s1 npp hp1 po1 fun H2 o2 p7 p8 s2 hp2 po2 => ⟨_, _, _, rfl, s2, o2, hp2, po2⟩
  · rintro σ H' ⟨p6, p7, p8, rfl, s1, o1, hp1, po1⟩
    show t_k20_6 g (endsQ Q) [p0, some (.ref pt), some (.ref x), some (.ref wt), some (.ref pp), some (.int ms.length), p6, p7, p8] H'
    refine s_rt (t_and (Q := Q) (h.holds s1 (Nat.le_refl _) (Nat.le_refl _) (fun R r => ⟨_, rfl, _, rfl, _, rfl, _, rfl, _, rfl, r⟩) fun H2 s2 => ⟨true, rfl, iteT (h.holds (f := 0) (l := 0) (s1.trans s2) (Nat.le_refl _) (Nat.zero_le _) (fun R r => ⟨_, rfl, _, rfl, _, rfl, r⟩) fun H3 s3 => q H3)⟩))
theorem pure_k20_law {g : Ga} {vs : List V} {H : Hp} {Q : VK} {E : XK} {N : List Str} (hN : N.length = 9) (h : sp_k20_law g vs H Q E) : t_k20_law g (endsQ Q) (L2.start N vs) H := by
  obtain ⟨a, ns, rfl, ha, n63, q⟩ := h
  have e0 : L2.start N [.ref a] = [some (.ref a), none, none, none, none, none, none, none, none] := by unfold L2.start; rw [hN]; rfl
  rw [e0]
  refine ⟨_, rfl, a, ns, 3, 4, 3, 5, rfl, ha, by decide, by decide, by decide, by decide, by decide, by decide, by decide, by decide, fun pt rl cl rs ks zs H1 s1 npt nrl ncl hpt hr hcl dr => ?_⟩
  have sm := dr.small (by decide) (by decide)
  have r24 : ∀ r ∈ rs, r.2.length ≤ 24 := fun r h => (dr.ok r h).l2
  refine ⟨_, rfl, pt, _, _, .ref rl, rfl, rfl, SqT.of hpt, rfl, _, rfl, pt, _, _, .ref cl, rfl, rfl, SqT.of hpt, rfl, rl, cl, rs, ks, rfl, hr, hcl, dr.sys (by decide) (by decide) (by decide), fun x H2 s2 nx hx => ?_⟩
  obtain ⟨cs, ecs, lcs⟩ := cut_ints ns (some 5) none
  refine ⟨_, rfl, pt, _, _, .ref rl, rfl, rfl, SqT.of (s2 _ _ hpt), rfl, _, rfl, _, rfl, a, _, rfl, (s1.trans s2).seq ha, fun c hc => ?_⟩
  have s3 : Same H2 (upd H2 c (.lst (cutV (ns.map V.int) (some 5) none))) := Same.new hc
  refine ⟨rl, c, rs, cs, rfl, hr.mono (s2.trans s3), SqL.of (by rw [upd_same, ecs]), by omega, sm, r24, fun t rt pl us xs ms ps H4 s4 ht hu hm hp hs wk ml => ?_⟩
  have s24 := s3.trans s4
  have rb : RunB g H4 pt rl cl x t rt pl rs ks us xs ms ps := ⟨s24 _ _ (s2 _ _ hpt), hr.mono (s2.trans s24), (s2.trans s24) _ _ hcl, hx.mono s24, sm, r24, dr.rng, ht, hu, hm, hp, hs, wk, by omega⟩
  have lu := hm.length
  refine ⟨_, rfl, a, ns, 4, rfl, (s1.trans (s2.trans s24)).seq ha, by decide, _, rfl, fun pp o po npp => ?_⟩
  have s5 : Same H4 (upd H4 pp o) := Same.new npp
  refine ⟨_, rfl, t, _, _, .ref rt, rfl, rfl, SqT.of (s5 _ _ ht), rfl, rt, us, rfl, .inr (Same.tup s5 hu), ?_⟩
  rw [lu]
  exact pure_k20_1 rb s5 npp upd_same po q
end Sd
namespace Sd
open PySem PySem.Spec PyProof.Rows L2
/-! ### System.with_diligent -/
theorem Ch.same1 {H H1 H' : Hp} {x : Addr} (s : Same H H1) (n : H x = none) (c : Ch [x] H1 H') : Same H H' := Same.ch s n c
/-- System(hands, row) -/
theorem make_sys {g : Ga} {H : Hp} {Q : VK} {E : XK} {σ : L2.St} {ta : TA} {v w : V} {xs : List V} {rs : List Rw} {ds : List Int} (ha : ∀ R : List V → Hp → Prop, R [v, w] H → ta σ H R) (hv : seqOf g.K H v xs) (hh : Paired (HandR g H) xs rs) (r1 : 1 ≤ rs.length) (r4 : rs.length ≤ 4) (w8 : ∀ r ∈ rs, (wordsOf r.2).length ≤ 8) (w12 : (sysWords rs).length ≤ 12) (hd : DilV g H w rs.length ds)
    (q : ∀ x H', Same H H' → H x = none → SysAt g H' x rs ds → Q (.ref x) H') : tMake g.cSystem (sp_System_init g) [] E ta σ H Q := by
  refine ha _ fun x dx nx ndx ne => ?_
  have s3 : Same H (upd (upd H dx (.own x)) x (.ins g.cSystem dx [])) := Same.own (Same.new ndx) nx
  exact ⟨x, dx, v, w, xs, rs, ds, rfl, upd_same, seqOf_mono s3 hv, paired_mono (fun _ _ z => z.mono s3) hh, r1, r4, w8, hd.mono s3, fun z => absurd z (by omega), fun _ H4 ch hs => ⟨rfl, q x H4 (Same.ch s3 nx ch) nx hs⟩⟩
def sp_System_with_diligent (g : Ga) : Sp := fun vs H Q _ => ∃ (x : Addr) (w : V) (rs : List Rw) (ds es : List Int), vs = [.ref x, w] ∧ SysAt g H x rs ds ∧ 1 ≤ rs.length ∧ rs.length ≤ 4 ∧ (∀ r ∈ rs, (wordsOf r.2).length ≤ 8) ∧ (sysWords rs).length ≤ 12 ∧ DilV g H w rs.length es ∧ ∀ y H', Same H H' → H y = none → SysAt g H' y rs es → Q (.ref y) H'
def t_System_with_diligent (g : Ga) (E : XK) : TS := (tRet (tMake g.cSystem (sp_System_init g) [] E (tCons (tFld g.K (tVar 0) "hands") (tCons (tVar 1) tNil))))
theorem pure_System_with_diligent {g : Ga} {vs : List V} {H : Hp} {Q : VK} {E : XK} {N : List Str} (T : SysC g) (hN : N.length = 2) (h : sp_System_with_diligent g vs H Q E) : t_System_with_diligent g E (endsQ Q) (L2.start N vs) H := by
  obtain ⟨x, w, rs, ds, es, rfl, hx, r1, r4, w8, w12, hd, q⟩ := h
  have e0 : L2.start N [.ref x, w] = [some (.ref x), some w] := by unfold L2.start; rw [hN]; rfl
  rw [e0]
  obtain ⟨dx, hh, d', w', s', hs, g1, g2, g3, g4, g5, g6⟩ := hx.ex
  exact s_rt (make_sys (v := .ref hh) (w := w) (xs := hs) (rs := rs) (fun R r => ⟨_, rfl, x, _, dx, _, _, rfl, g1, T.cl, T.n1, sfld_hands, _, rfl, r⟩) ⟨hh, rfl, .inr g2⟩ g3 r1 r4 w8 w12 hd q)
/-! ### _law_sets -/
def subs : Nat → List (List Int)
  | 0 => [[]]
  | n + 1 => subs n ++ (subs n).map (· ++ [(n : Int)])
theorem subs_ok : ∀ (n : Nat) (l : List Int), l ∈ subs n → AscI l ∧ ∀ k ∈ l, 0 ≤ k ∧ k < (n : Int)
  | 0, l, h => by
    rw [List.mem_singleton.mp h]
    exact ⟨List.Pairwise.nil, fun k h => by cases h⟩
  | n + 1, l, h => by
    rcases List.mem_append.mp h with z | z
    · have := subs_ok n l z
      exact ⟨this.1, fun k hk => by have := this.2 k hk; omega⟩
    · obtain ⟨l', hl, rfl⟩ := List.mem_map.mp z
      have := subs_ok n l' hl
      refine ⟨List.pairwise_append.mpr ⟨this.1, List.pairwise_singleton _ _, fun a ha b hb => ?_⟩, fun k hk => ?_⟩
      · rw [List.mem_singleton.mp hb]; exact (this.2 a ha).2
      · rcases List.mem_append.mp hk with y | y
        · have := this.2 k y; omega
        · rw [List.mem_singleton.mp y]; omega
theorem nil_subs : ∀ n : Nat, [] ∈ subs n
  | 0 => List.mem_singleton.mpr rfl
  | n + 1 => List.mem_append.mpr (.inl (nil_subs n))
theorem one_subs : ∀ (n k : Nat), k < n → [(k : Int)] ∈ subs n
  | 0, k, h => by omega
  | n + 1, k, h => by
    by_cases c : k = n
    · subst c
      exact List.mem_append.mpr (.inr (List.mem_map.mpr ⟨[], nil_subs k, rfl⟩))
    · exact List.mem_append.mpr (.inl (one_subs n k (by omega)))
theorem subs_len : ∀ n : Nat, (subs n).length = 2 ^ n
  | 0 => rfl
  | n + 1 => by
    unfold subs
    rw [List.length_append, List.length_map, subs_len n, Nat.pow_succ]; omega
theorem subs_le {n : Nat} (h : n ≤ 4) : (subs n).length ≤ 16 := by
  rw [subs_len]
  have : 2 ^ n ≤ 2 ^ 4 := Nat.pow_le_pow_right (by decide) h
  omega
theorem asc_len {n : Nat} {l : List Int} (a : AscI l) (h : ∀ k ∈ l, 0 ≤ k ∧ k < (n : Int)) : l.length ≤ n := by
  have := nodup_leG l ((List.range n).map fun k : Nat => (k : Int)) (ascI_nodup a) fun k hk => by
    have h := h k hk
    exact List.mem_map.mpr ⟨k.toNat, List.mem_range.mpr (by omega), by omega⟩
  rwa [List.length_map, List.length_range] at this
def LsAt (H : Hp) (v : V) (l : List Int) : Prop := ∃ a, v = .ref a ∧ H a = some (.lst (l.map V.int))
theorem LsAt.mono {H H' : Hp} {v : V} {l : List Int} (s : Same H H') (h : LsAt H v l) : LsAt H' v l := let ⟨a, e, z⟩ := h; ⟨a, e, s _ _ z⟩
def LsFr (B H : Hp) (v : V) (l : List Int) : Prop := ∃ a, v = .ref a ∧ B a = none ∧ H a = some (.lst (l.map V.int))
theorem LsFr.mono {B H H' : Hp} {v : V} {l : List Int} (s : Same H H') (h : LsFr B H v l) : LsFr B H' v l := let ⟨a, e, n, z⟩ := h; ⟨a, e, n, s _ _ z⟩
def LsNe (D : Addr) (H : Hp) (v : V) (l : List Int) : Prop := ∃ a, v = .ref a ∧ a ≠ D ∧ H a = some (.lst (l.map V.int))
theorem LsNe.mono {D : Addr} {H H' : Hp} {v : V} {l : List Int} (s : Same H H') (h : LsNe D H v l) : LsNe D H' v l := let ⟨a, e, n, z⟩ := h; ⟨a, e, n, s _ _ z⟩
theorem LsNe.upd {D : Addr} {H : Hp} {v : V} {l : List Int} {o : HO} (h : LsNe D H v l) : LsNe D (L2.upd H D o) v l := let ⟨a, e, n, z⟩ := h; ⟨a, e, n, by rw [upd_ne n]; exact z⟩
theorem LsNe.ls {D : Addr} {H : Hp} {v : V} {l : List Int} (h : LsNe D H v l) : LsAt H v l := let ⟨a, e, n, z⟩ := h; ⟨a, e, z⟩
def LsFN (B : Hp) (D : Addr) (H : Hp) (v : V) (l : List Int) : Prop := ∃ a, v = .ref a ∧ a ≠ D ∧ B a = none ∧ H a = some (.lst (l.map V.int))
theorem LsFN.mono {B : Hp} {D : Addr} {H H' : Hp} {v : V} {l : List Int} (s : Same H H') (h : LsFN B D H v l) : LsFN B D H' v l := let ⟨a, e, n, f, z⟩ := h; ⟨a, e, n, f, s _ _ z⟩
theorem LsFN.upd {B : Hp} {D : Addr} {H : Hp} {v : V} {l : List Int} {o : HO} (h : LsFN B D H v l) : LsFN B D (L2.upd H D o) v l := let ⟨a, e, n, f, z⟩ := h; ⟨a, e, n, f, by rw [upd_ne n]; exact z⟩
theorem LsFN.fr {B : Hp} {D : Addr} {H : Hp} {v : V} {l : List Int} (h : LsFN B D H v l) : LsFr B H v l := let ⟨a, e, n, f, z⟩ := h; ⟨a, e, f, z⟩
def sp_law_sets (g : Ga) : Sp := fun vs H Q _ => ∃ n : Nat, vs = [.int n] ∧ n ≤ 4 ∧ ∀ D xs H', Same H H' → H D = none → H' D = some (.lst xs) → Paired (LsFr H H') xs (subs n) → Q (.ref D) H'
def t_law_sets (g : Ga) : TS := (tSeq (tAsg (tLst (tCons (tLst tNil) tNil)) (gName 1)) (tSeq (tFor (iRng1 (tCons (tVar 0) tNil)) (gName 2) (tAsg (tOp rCat (tVar 1) (tLc (iList g.K (tVar 1)) (gName 3) tYes (tOp rCat (tVar 3) (tLst (tCons (tVar 2) tNil))) [3])) (gName 1))) (tRet (tVar 1))))
theorem pure_law_sets {g : Ga} {vs : List V} {H : Hp} {Q : VK} {E : XK} {N : List Str} (hN : N.length = 4) (h : sp_law_sets g vs H Q E) : t_law_sets g (endsQ Q) (L2.start N vs) H := by
  obtain ⟨n, rfl, n4, q⟩ := h
  have e0 : L2.start N [.int n] = [some (.int n), none, none, none] := by unfold L2.start; rw [hN]; rfl
  rw [e0]
  refine ⟨by show 0 ≤ sizeLine; decide, fun u hu => ⟨by show 1 ≤ sizeLine; decide, fun f hf => ?_⟩⟩
  have s1 : Same H (upd H u (.lst [])) := Same.new hu
  have s2 : Same (upd H u (.lst [])) (upd (upd H u (.lst [])) f (.lst [.ref u])) := Same.new hf
  refine ⟨_, rfl, _, rfl, by omega, by omega, for_range (n := n) (fun i σ H' => ∃ (fd : Addr) (xs : List V) (p2 : Option V), σ = [some (.int n), some (.ref fd), p2, none] ∧ Same H H' ∧ H fd = none ∧ H' fd = some (.lst xs) ∧ Paired (LsFr H H') xs (subs i)) ⟨f, [.ref u], none, rfl, s1.trans s2, s1.free hf, upd_same, .cons ⟨u, rfl, hu, s2 _ _ upd_same⟩ .nil⟩ ?_ ?_⟩
  · rintro i σ H' hi ⟨fd, xs, p2, rfl, s3, nf, hfd, hxs⟩
    have lx := hxs.length
    have l16 := subs_le (n := i) (by omega)
    refine ⟨_, rfl, _, rfl, fd, rfl, ⟨_, SqL.of hfd⟩, fun D hD => ?_⟩
    refine lc_list (K := g.K) (a := fd) (xs := xs) (fun j H1 => Same H' H1 ∧ ∃ ys, H1 D = some (.lst ys) ∧ Paired (LsFN H D H1) ys (((subs i).take j).map (· ++ [(i : Int)]))) ⟨Same.new hD, [], upd_same, .nil⟩ (fun j H1 _ z => SqL.of (z.1 _ _ hfd)) ?_ ?_
    · rintro j v H1 hv ⟨s4, ys, hy, hys⟩
      obtain ⟨l, hl, a, rfl, _, ha⟩ := paired_get hxs hv
      have ly := hys.length
      have jl := (List.getElem?_eq_some_iff.mp hv).1
      rw [List.length_map, List.length_take] at ly
      refine ⟨rfl, e_yes ?_⟩
      refine ⟨_, rfl, _, rfl, by show 1 ≤ sizeLine; decide, fun o ho => ?_⟩
      have s5 : Same H1 (upd H1 o (.lst [.int (0 + (i : Int))])) := Same.new ho
      have la := asc_len (subs_ok i l (List.mem_of_getElem? hl)).1 (subs_ok i l (List.mem_of_getElem? hl)).2
      refine ⟨a, o, _, _, rfl, rfl, s5 _ _ (s4 _ _ ha), upd_same, by rw [List.length_map]; exact Nat.le_of_lt (big_line (by show l.length + 1 ≤ _; omega)), fun p hp => ?_⟩
      have s6 : Same (upd H1 o (.lst [.int (0 + (i : Int))])) (upd (upd H1 o (.lst [.int (0 + (i : Int))])) p (.lst (l.map V.int ++ [.int (0 + (i : Int))]))) := Same.new hp
      have hy6 := s6 _ _ (s5 _ _ hy)
      have nD : ∀ {a : Addr} {zs : List V}, H' a = some (.lst zs) → a ≠ D := fun h => ne_of_none h hD
      have npD : p ≠ D := fun z => by
        have := s5 _ _ hy
        rw [z] at hp; rw [this] at hp; cases hp
      refine ⟨ys, hy6, big_line (by omega), (Same.own (s4.trans (s5.trans s6)) hD), ys ++ [.ref p], upd_same, ?_⟩
      rw [List.take_add_one, hl, Option.toList_some, List.map_append]
      refine paired_app ?_ (.cons ⟨p, rfl, npD, (s3.trans (s4.trans s5)).free hp, ?_⟩ .nil)
      · exact paired_mono (fun _ _ z => (z.mono (s5.trans s6)).upd) hys
      · rw [upd_ne npD, upd_same, Int.zero_add, List.map_append]; rfl
    · rintro H1 ⟨s4, ys, hy, hys⟩
      rw [lx, List.take_length] at hys
      have ly := hys.length
      rw [List.length_map] at ly
      refine ⟨fd, D, _, _, rfl, rfl, s4 _ _ hfd, hy, Nat.le_of_lt (big_line (by omega)), fun p hp => ?_⟩
      have s5 : Same H1 (upd H1 p (.lst (xs ++ ys))) := Same.new hp
      exact ⟨p, xs ++ ys, _, rfl, s3.trans (s4.trans s5), (s3.trans s4).free hp, upd_same, paired_app (paired_mono (fun _ _ z => z.mono (s4.trans s5)) hxs) (paired_mono (fun _ _ z => z.fr.mono s5) hys)⟩
  · rintro σ H' ⟨fd, xs, p2, rfl, s3, nf, hfd, hxs⟩
    exact ⟨_, rfl, q fd xs H' s3 nf hfd hxs⟩
end Sd
namespace Sd
open PySem PySem.Spec PyProof.Rows L2
/-! ### lists of ints as data -/
def lsD (l : List Int) : PyData := .list (l.map .int)
theorem ls_eqv (p q : List Int) : PyData.eqv (lsD p) (lsD q) = decide (p = q) := by
  unfold lsD PyData.eqv
  exact ints_eqv p q
theorem any_ls (p : List Int) (ps : List (List Int)) : (ps.map lsD).any (fun z => z.eqv (lsD p)) = decide (p ∈ ps) := by
  induction ps with
  | nil => simp
  | cons a L ih =>
    rw [List.map_cons, List.any_cons, ih, ls_eqv]
    by_cases h : a = p
    · subst h; simp
    · have h2 : ¬ p = a := fun z => h z.symm
      simp [h, h2]
theorem ls_lay (s : List Int) : (lsD s).canLay0 = true ∧ (lsD s).depth = 1 := by
  have ih := ints_lay s
  simp [lsD, PyData.canLay0, PyData.depth, ih.1, ih.2]
theorem ls_shaped (s : List Int) : SeqAt.shaped (lsD s) = true := by
  unfold SeqAt.shaped
  rw [(ls_lay s).1, (ls_lay s).2]; rfl
theorem lss_lay : ∀ ps : List (List Int), PyData.canLayAll0 (ps.map lsD) = true ∧ PyData.depthAll (ps.map lsD) ≤ 1
  | [] => ⟨rfl, Nat.zero_le _⟩
  | p :: ps => by
    have ih := lss_lay ps
    have h1 := ls_lay p
    rw [List.map_cons]
    refine ⟨by simp only [PyData.canLayAll0, ih.1, h1.1]; rfl, ?_⟩
    simp only [PyData.depthAll]
    have := ih.2
    omega
theorem lss_shaped (ps : List (List Int)) : SeqAt.shaped (.list (ps.map lsD)) = true := by
  have := lss_lay ps
  unfold SeqAt.shaped
  rw [Bool.and_eq_true]
  exact ⟨by simp only [PyData.canLay0]; exact this.1, decide_eq_true (by simp only [PyData.depth]; omega)⟩
theorem dp_ls {K : PySem.W.Frag} {H : Hp} {v : V} {l : List Int} (h : LsAt H v l) : Dp K H v (lsD l) := by
  obtain ⟨a, rfl, h⟩ := h
  exact .lst (SqL.of h) (dp_ints l)
theorem dp_lss {K : PySem.W.Frag} {H : Hp} : ∀ {xs : List V} {ps : List (List Int)}, Paired (LsAt H) xs ps → DpAll K H xs (ps.map lsD)
  | _, _, .nil => .nil
  | _, _, .cons r t => .cons (dp_ls r) (dp_lss t)
/-- system.with_diligent(row) -/
theorem meth_wd {g : Ga} {σ : L2.St} {H : Hp} {Q : VK} {E : XK} {i : Nat} {tv : TE} {x : Addr} {v : V} {ds es : List Int} {rs : List Rw} (h1 : σ[i]? = some (some (.ref x))) (hx : SysAt g H x rs ds) (ht : ∀ Q : VK, Q v H → tv σ H Q) (r1 : 1 ≤ rs.length) (r4 : rs.length ≤ 4) (w8 : ∀ r ∈ rs, (wordsOf r.2).length ≤ 8) (w12 : (sysWords rs).length ≤ 12) (hd : DilV g H v rs.length es) (q : ∀ y H', Same H H' → H y = none → SysAt g H' y rs es → Q (.ref y) H') :
    tMeth g.cSystem "with_diligent" (sp_System_with_diligent g) [] E (tVar i) (tCons tv tNil) σ H Q := by
  obtain ⟨dx, h, d, w, s, xs, g1, g2⟩ := hx.ex
  have n1 : (("with_diligent" : Str) == "hands") = false := by decide +kernel
  have n2 : (("with_diligent" : Str) == "diligent") = false := by decide +kernel
  have n3 : (("with_diligent" : Str) == "words") = false := by decide +kernel
  have n4 : (("with_diligent" : Str) == "start") = false := by decide +kernel
  refine ⟨_, h1, x, dx, _, rfl, g1, by simp [sysF, List.lookup, n1, n2, n3, n4], ht _ ?_⟩
  exact ⟨x, v, rs, ds, es, rfl, hx, r1, r4, w8, w12, hd, q⟩
/-! ### the law's hands: rows and a walk -/
structure WalkB (g : Ga) (B : Hp) (pt rl cl wt rt pl : Addr) (zs : List Str) (rs : List Rw) (ks : List Int) (us xs : List V) (ms : List Move) (ps : List (List Int)) : Prop where
  hpt : B pt = some (.tup [.ref rl, .ref cl])
  hr : RowsAt g B rl rs
  hcl : B cl = some (.lst (ks.map V.int))
  dr : DrawnRows zs 3 4 3 rs ks
  hwt : B wt = some (.tup [.ref rt, .ref pl])
  hu : SqT g.K B rt us
  hm : Paired (MoveAt g.K B) us ms
  hp : B pl = some (.lst xs)
  hs : Paired (StAt g.K B) xs ps
  wk : WalkOk rs ps ms
  few : ms.length ≤ 1000
theorem WalkB.mono {g : Ga} {B H : Hp} {pt rl cl wt rt pl : Addr} {zs : List Str} {rs : List Rw} {ks : List Int} {us xs : List V} {ms : List Move} {ps : List (List Int)} (s : Same B H) (h : WalkB g B pt rl cl wt rt pl zs rs ks us xs ms ps) : WalkB g H pt rl cl wt rt pl zs rs ks us xs ms ps :=
  ⟨s _ _ h.hpt, h.hr.mono s, s _ _ h.hcl, h.dr, s _ _ h.hwt, Same.tup s h.hu, paired_mono (fun _ _ z => z.mono s) h.hm, s _ _ h.hp, paired_mono (fun _ _ z => z.mono s) h.hs, h.wk, h.few⟩
theorem WalkOk.mlen {rs : List Rw} {ps : List (List Int)} {ms : List Move} (wk : WalkOk rs ps ms) : ∀ m ∈ ms, m.2.length = rs.length := fun m hm' => by
  obtain ⟨k, hk⟩ := List.mem_iff_getElem?.mp hm'
  have kl := (List.getElem?_eq_some_iff.mp hk).1
  have wl := wk.len
  have hp2 : ps[k]? = some (ps[k]'(by omega)) := List.getElem?_eq_getElem _
  exact (valid_of (wk.mv k m _ hk hp2) (wk.st _ (List.mem_of_getElem? hp2)).len).1
theorem slice_back {ps : List (List Int)} {f l : Nat} (fl : f ≤ l) (lp : l < ps.length) (e : ps[f]? = ps[l]?) : ((ps.drop f).take (l + 1 - f)).getLast? = ((ps.drop f).take (l + 1 - f))[0]? := by
  rw [List.getLast?_eq_getElem?, List.length_take, List.length_drop, List.getElem?_take_of_lt (by omega), List.getElem?_take_of_lt (by omega), List.getElem?_drop, List.getElem?_drop, Nat.add_zero (f), e]
  rw [show f + (min (l + 1 - f) (ps.length - f) - 1) = l by omega]
/-- the law of k23: fair for a set exactly if for each of its hands alone -/
def goodH (rs : List Rw) (ar : List (List Int)) (ms : List Move) (h : Int) : Bool := !(allAble rs ar h && !takesB ms h.toNat)
theorem fairB_all (rs : List Rw) (ds : List Int) (ar : List (List Int)) (ms : List Move) : fairB rs ds ar ms = ds.all (goodH rs ar ms) := rfl
def fairS (rs : List Rw) (ar : List (List Int)) (ms : List Move) (n : Nat) : List (List Int) := (subs n).filter fun c => fairB rs c ar ms
theorem fairS_mem {rs : List Rw} {ar : List (List Int)} {ms : List Move} {n : Nat} {c : List Int} (h : c ∈ subs n) : c ∈ fairS rs ar ms n ↔ c.all (goodH rs ar ms) = true := by
  unfold fairS
  rw [List.mem_filter, fairB_all]
  exact ⟨fun z => z.2, fun z => ⟨h, z⟩⟩
theorem fairS_alone {rs : List Rw} {ar : List (List Int)} {ms : List Move} {n : Nat} {c : List Int} (h : c ∈ subs n) : decide ((c.filter fun k => decide ([k] ∈ fairS rs ar ms n)).length = c.length) = decide (c ∈ fairS rs ar ms n) := by
  rw [decide_eq_decide, List.length_filter_eq_length_iff, fairS_mem h, List.all_eq_true]
  have one : ∀ k ∈ c, (decide ([k] ∈ fairS rs ar ms n) = true ↔ goodH rs ar ms k = true) := fun k hk => by
    have kk := (subs_ok n c h).2 k hk
    have m1 : [k] ∈ subs n := by
      have := one_subs n k.toNat (by omega)
      rwa [Int.toNat_of_nonneg kk.1] at this
    rw [decide_eq_true_iff, fairS_mem m1, List.all_cons, List.all_nil, Bool.and_true]
  exact ⟨fun z k hk => (one k hk).mp (z k hk), fun z k hk => (one k hk).mpr (z k hk)⟩
def sp_k23_holds (g : Ga) : Sp := fun vs H Q _ => ∃ (pt rl cl wt rt pl : Addr) (f l : Nat) (zs : List Str) (rs : List Rw) (ks : List Int) (us xs : List V) (ms : List Move) (ps : List (List Int)), vs = [.ref pt, .ref wt, .int f, .int l] ∧ WalkB g H pt rl cl wt rt pl zs rs ks us xs ms ps ∧ f ≤ l ∧ l ≤ ms.length ∧ ps[f]? = ps[l]? ∧ ∀ H', Same H H' → Q (.bl true) H'
def t_k3_12 (g : Ga) : TS := (tRet (tOp (rInD g.K) (tLst tNil) (tVar 8)))
def t_k3_8 (g : Ga) : TS := (tIfS (tB (tVar 10)) (tDrop (tBM g.K "list" rApp (tVar 8) (tCons (tVar 9) tNil))) tNext)
def t_k3_11 (g : Ga) : TS := (tIfS (tTest (tOp rNe (tVar 11) (tOp (rInD g.K) (tVar 9) (tVar 8)))) (tRet (tC (.bl false))) tNext)
def t_k3_10 (g : Ga) : TS := (tSeq (tAsg (tOp rEq (tCB (rLenS g.K) (tCons (tLc (iList g.K (tVar 9)) (gName 12) (tTest (tOp (rInD g.K) (tLst (tCons (tVar 12) tNil)) (tVar 8))) (tVar 12) [12]) tNil)) (tCB (rLenS g.K) (tCons (tVar 9) tNil))) (gName 11)) (t_k3_11 g))
def t_k3_7 (g : Ga) : TS := (tSeq (tIfS (tOr (tNot (tB (tCB (rIsi g.K) (tCons (tVar 10) (tCons (tC (.ty "bool")) tNil))))) (tTest (tOp rNe (tVar 10) (tCall (sp_law_fair g) [] E0 (tCons (tOp (rIxT g.K) (tVar 0) (tC (.int 0))) (tCons (tVar 9) (tCons (tVar 6) (tCons (tVar 5) tNil)))))))) (tRet (tC (.bl false))) tNext) (t_k3_8 g))
def t_k3_9 (g : Ga) : TS := (tSeq (tFor (iList g.K (tCall (sp_law_sets g) [] E0 (tCons (tCB (rLenS g.K) (tCons (tOp (rIxT g.K) (tVar 0) (tC (.int 0))) tNil)) tNil))) (gName 9) (t_k3_10 g)) (t_k3_12 g))
def t_k3_6 (g : Ga) : TS := (tSeq (tAsg (tCall (sp_is_fair g) [] E0 (tCons (tMeth g.cSystem "with_diligent" (sp_System_with_diligent g) [] E0 (tVar 7) (tCons (tVar 9) tNil)) (tCons (tVar 4) (tCons (tVar 5) tNil)))) (gName 10)) (t_k3_7 g))
def t_k3_5 (g : Ga) : TS := (tSeq (tFor (iList g.K (tCall (sp_law_sets g) [] E0 (tCons (tCB (rLenS g.K) (tCons (tOp (rIxT g.K) (tVar 0) (tC (.int 0))) tNil)) tNil))) (gName 9) (t_k3_6 g)) (t_k3_9 g))
def t_k3_4 (g : Ga) : TS := (tSeq (tAsg (tLst tNil) (gName 8)) (t_k3_5 g))
def t_k3_3 (g : Ga) : TS := (tSeq (tAsg (tCall (sp_law_system g) [] E0 (tCons (tOp (rIxT g.K) (tVar 0) (tC (.int 0))) (tCons (tOp (rIxT g.K) (tVar 0) (tC (.int 1))) tNil))) (gName 7)) (t_k3_4 g))
def t_k3_2 (g : Ga) : TS := (tSeq (tAsg (tCall (sp_law_once g) [] E0 (tCons (tSl (rSlL g.K) (tOp (rIxT g.K) (tVar 1) (tC (.int 1))) (tPart (tVar 2)) (tPart (tOp rAdd (tVar 3) (tC (.int 1))))) tNil)) (gName 6)) (t_k3_3 g))
def t_k3_1 (g : Ga) : TS := (tSeq (tAsg (tSl (rSlA g.K) (tOp (rIxT g.K) (tVar 1) (tC (.int 0))) (tPart (tVar 2)) (tPart (tVar 3))) (gName 5)) (t_k3_2 g))
def t_k23__law_holds (g : Ga) : TS := (tSeq (tAsg (tSl (rSlA g.K) (tOp (rIxT g.K) (tVar 1) (tC (.int 0))) tNoPart (tPart (tVar 2))) (gName 4)) (t_k3_1 g))
theorem pure_k3_8 {g : Ga} {H : Hp} {D : Ends} {p0 p1 p2 p3 p4 p5 p6 p7 : Option V} {fl a : Addr} {ys : List V} {qs : List (List Int)} {c : List Int} {b : Bool} (hf : H fl = some (.lst ys)) (hq : Paired (LsNe fl H) ys qs) (few : qs.length ≤ 1000) (na : a ≠ fl) (ha : H a = some (.lst (c.map V.int)))
    (q : ∀ H' ys', Ch [fl] H H' → H' fl = some (.lst ys') → Paired (LsNe fl H') ys' (qs ++ if b = true then [c] else []) → D.nx [p0, p1, p2, p3, p4, p5, p6, p7, some (.ref fl), some (.ref a), some (.bl b), none, none] H') :
    t_k3_8 g D [p0, p1, p2, p3, p4, p5, p6, p7, some (.ref fl), some (.ref a), some (.bl b), none, none] H := by
  have lq := hq.length
  refine ⟨_, rfl, b, rfl, ?_⟩
  cases b with
  | false => exact iteF (q H ys (Ch.refl H) hf (by rw [if_neg (by decide), List.append_nil]; exact hq))
  | true =>
    refine iteT ⟨_, rfl, .inl ⟨rfl, _, SqL.of hf⟩, _, rfl, fl, _, _, rfl, rfl, hf, big_line (by omega), ?_⟩
    refine q _ (ys ++ [.ref a]) ((Ch.refl H).at (by simp)) upd_same ?_
    rw [if_pos rfl]
    exact paired_app (paired_mono (fun _ _ z => z.upd) hq) (.cons ⟨a, rfl, na, by rw [upd_ne na]; exact ha⟩ .nil)
/-- the second loop -/
theorem pure_k3_9 {g : Ga} {B H : Hp} {Q : VK} {p1 p2 p3 p4 p5 p6 p7 p9 p10 : Option V} {pt rl cl fl : Addr} {rs : List Rw} {ys : List V} {ar : List (List Int)} {ml : List Move} (hpt : B pt = some (.tup [.ref rl, .ref cl])) (hr : RowsAt g B rl rs) (r4 : rs.length ≤ 4) (s0 : Same B H) (hfl : H fl = some (.lst ys)) (hys : Paired (LsAt H) ys (fairS rs ar ml rs.length))
    (q : ∀ H', Same B H' → Q (.bl true) H') :
    t_k3_9 g (endsQ Q) [some (.ref pt), p1, p2, p3, p4, p5, p6, p7, some (.ref fl), p9, p10, none, none] H := by
  obtain ⟨xr, hxr, hxp⟩ := hr.ex
  have lxr := hxp.length
  refine ⟨_, rfl, pt, _, _, .ref rl, rfl, rfl, SqT.of (s0 _ _ hpt), rfl, rl, xr, rfl, .inl (SqL.of (s0 _ _ hxr)), xr.length, rfl, by omega, fun D1 xs1 H6 s6 nD1 hD1 hx1 => ?_⟩
  rw [lxr] at hx1
  have lx1 := hx1.length
  have inF : ∀ (H' : Hp), Same H H' → Dp g.K H' (.ref fl) (.list ((fairS rs ar ml rs.length).map lsD)) := fun H' s' => .lst (SqL.of (s' _ _ hfl)) (dp_lss (paired_mono (fun _ _ z => z.mono s') hys))
  refine ⟨D1, rfl, ⟨_, SqL.of hD1⟩, for_list (K := g.K) (a := D1) (xs := xs1) (fun i σ H' => ∃ p9 p10 p11 : Option V, σ = [some (.ref pt), p1, p2, p3, p4, p5, p6, p7, some (.ref fl), p9, p10, p11, none] ∧ Same H6 H') ⟨_, _, _, rfl, Same.refl _⟩ (fun i σ H' _ ⟨_, _, _, _, z⟩ => SqL.of (z _ _ hD1)) ?_ ?_⟩
  · rintro i v σ H' hv ⟨p9, p10, p11, rfl, s7⟩
    obtain ⟨c, hc, a, rfl, na, ha⟩ := paired_get hx1 hv
    have cm := List.mem_of_getElem? hc
    obtain ⟨casc, crng⟩ := subs_ok _ c cm
    have cl4 := asc_len casc crng
    have s67 := s6.trans s7
    have ha' := s7 _ _ ha
    show t_k3_10 g _ [some (.ref pt), p1, p2, p3, p4, p5, p6, p7, some (.ref fl), some (.ref a), p10, p11, none] H'
    refine ⟨_, rfl, a, rfl, ⟨_, SqL.of ha'⟩, fun D hD => ?_⟩
    refine lc_list (K := g.K) (a := a) (xs := c.map V.int) (fun j H1 => Same H' H1 ∧ ∃ zs, H1 D = some (.lst zs) ∧ zs.length = ((c.take j).filter fun k => decide ([k] ∈ fairS rs ar ml rs.length)).length) ⟨Same.new hD, [], upd_same, rfl⟩ (fun j H1 _ z => SqL.of (z.1 _ _ ha')) ?_ ?_
    · rintro j v H1 hv ⟨s8, zs, hz, lz⟩
      obtain ⟨k, hk, rfl⟩ := map_get hv
      have tk : ((c.take (j + 1)).filter fun k => decide ([k] ∈ fairS rs ar ml rs.length)).length = ((c.take j).filter fun k => decide ([k] ∈ fairS rs ar ml rs.length)).length + if [k] ∈ fairS rs ar ml rs.length then 1 else 0 := by
        rw [List.take_add_one, hk, Option.toList_some, List.filter_append, List.length_append, List.filter_cons, List.filter_nil]
        by_cases z : [k] ∈ fairS rs ar ml rs.length <;> simp [z]
      have zl : zs.length ≤ 1000 := by
        rw [lz]
        have := List.length_filter_le (fun k => decide ([k] ∈ fairS rs ar ml rs.length)) (c.take j)
        rw [List.length_take] at this
        omega
      refine ⟨rfl, ⟨_, rfl, by show 1 ≤ sizeLine; decide, fun o ho => ?_⟩⟩
      have s9 : Same H1 (upd H1 o (.lst [.int k])) := Same.new ho
      refine ⟨_, rfl, lsD [k], _, dp_ls ⟨o, rfl, upd_same⟩, inF _ (s67.trans (s8.trans s9)), ls_shaped _, lss_shaped _, _, rfl, ?_⟩
      rw [any_ls]
      by_cases z : [k] ∈ fairS rs ar ml rs.length
      · rw [decide_eq_true z]
        refine iteT ⟨_, rfl, zs, s9 _ _ hz, small1000 zl, Same.own (s8.trans s9) hD, zs ++ [.int k], upd_same, ?_⟩
        rw [tk, if_pos z, List.length_append, lz]; rfl
      · rw [decide_eq_false z]
        refine iteF ⟨s8.trans s9, zs, s9 _ _ hz, ?_⟩
        rw [tk, if_neg z, lz]; rfl
    · rintro H1 ⟨s8, zs, hz, lz⟩
      rw [List.length_map, List.take_length] at lz
      have ed : decide (V.int (zs.length : Int) = V.int ((c.map V.int).length : Int)) = decide (c ∈ fairS rs ar ml rs.length) := by
        rw [← fairS_alone cm, decide_eq_decide, lz, List.length_map]
        exact ⟨fun z => by injection z with z; exact Int.ofNat.inj z, fun z => by rw [z]⟩
      refine ⟨D, zs, rfl, .inl (SqL.of hz), _, rfl, a, _, rfl, .inl (SqL.of (s8 _ _ ha')), rfl, ?_⟩
      rw [ed]
      show t_k3_11 g _ [some (.ref pt), p1, p2, p3, p4, p5, p6, p7, some (.ref fl), some (.ref a), p10, some (.bl (decide (c ∈ fairS rs ar ml rs.length))), none] H1
      refine ⟨_, rfl, _, rfl, _, rfl, lsD c, _, dp_ls ⟨a, rfl, s8 _ _ ha'⟩, inF _ (s67.trans s8), ls_shaped _, lss_shaped _, rfl, _, rfl, ?_⟩
      rw [any_ls, decide_eq_true rfl]
      exact iteF ⟨_, _, _, rfl, s7.trans s8⟩
  · rintro σ H' ⟨p9, p10, p11, rfl, s7⟩
    show t_k3_12 g (endsQ Q) [some (.ref pt), p1, p2, p3, p4, p5, p6, p7, some (.ref fl), p9, p10, p11, none] H'
    refine ⟨by show 0 ≤ sizeLine; decide, fun o ho => ?_⟩
    have s9 : Same H' (upd H' o (.lst [])) := Same.new ho
    refine ⟨_, rfl, lsD [], _, dp_ls ⟨o, rfl, upd_same⟩, inF _ ((s6.trans s7).trans s9), ls_shaped _, lss_shaped _, ?_⟩
    rw [any_ls, decide_eq_true ((fairS_mem (nil_subs _)).mpr rfl)]
    exact q _ (s0.trans ((s6.trans s7).trans s9))
/-- the first loop -/
theorem pure_k3_5 {g : Ga} {B H : Hp} {Q : VK} {p2 p3 : Option V} {pt rl cl wt rt pl st lo on x fl : Addr} {f l : Nat} {zs : List Str} {rs : List Rw} {ks : List Int} {us xs us1 us2 oy : List V} {ms : List Move} {ps oq : List (List Int)}
    (h : WalkB g B pt rl cl wt rt pl zs rs ks us xs ms ps) (fll : f ≤ l) (lm : l ≤ ms.length) (back : ps[f]? = ps[l]?) (hst : SqT g.K B st us1) (m1 : Paired (MoveAt g.K B) us1 (ms.take f)) (hlo : SqT g.K B lo us2) (m2 : Paired (MoveAt g.K B) us2 ((ms.drop f).take (l - f))) (hon : B on = some (.lst oy)) (hoq : Paired (StAt g.K B) oy oq) (mem : ∀ p, p ∈ oq ↔ p ∈ (ps.drop f).take (l + 1 - f)) (hx : SysAt g B x rs ks) (nfl : B fl = none) (s0 : Same B H) (hfl : H fl = some (.lst []))
    (q : ∀ H', Same B H' → Q (.bl true) H') :
    t_k3_5 g (endsQ Q) [some (.ref pt), some (.ref wt), p2, p3, some (.ref st), some (.ref lo), some (.ref on), some (.ref x), some (.ref fl), none, none, none, none] H := by
  have sm := h.dr.small (by decide) (by decide)
  have r24 : ∀ r ∈ rs, r.2.length ≤ 24 := fun r h' => (h.dr.ok r h').l2
  have n1 := h.dr.n1
  have n2 := h.dr.n2
  have zl := h.dr.zl
  have sw := sysWords_le h.dr.ok
  have w8 : ∀ r ∈ rs, (wordsOf r.2).length ≤ 8 := fun r h' => Nat.le_trans (h.dr.ok r h').words (by omega)
  have wl := h.wk.len
  have few := h.few
  obtain ⟨xr, hxr, hxp⟩ := h.hr.ex
  have lxr := hxp.length
  have em : ms.take f ++ (ms.drop f).take (l - f) = ms.take l := by
    have := List.take_add (l := ms) (i := f) (j := l - f)
    rw [show f + (l - f) = l by omega] at this
    exact this.symm
  have lf : (ms.take f).length = f := by rw [List.length_take]; omega
  have ep : (ps.take (l + 1)).drop f = (ps.drop f).take (l + 1 - f) := List.drop_take
  generalize hAP : (ps.drop f).take (l + 1 - f) = aps at mem ep
  generalize hML : (ms.drop f).take (l - f) = ml at m2 em
  have gl : aps.getLast? = aps[0]? := by rw [← hAP]; exact slice_back fll (by omega) back
  have lenM : ∀ m ∈ ml, m.2.length = rs.length := fun m hm => h.wk.mlen m (by rw [← hML] at hm; exact List.mem_of_mem_drop (List.mem_of_mem_take hm))
  have ef : ∀ c, isFairB rs c aps ml = fairB rs c aps ml := fun c => by unfold isFairB; rw [decide_eq_true gl, Bool.true_and]
  have eo : ∀ c, fairB rs c oq ml = fairB rs c aps ml := fun c => by unfold fairB; simp only [allAble_mem mem]
  have pok : ∀ p ∈ oq, p.length = rs.length := fun p hp => by
    have := (mem p).mp hp
    rw [← hAP] at this
    exact (h.wk.st p (List.mem_of_mem_drop (List.mem_of_mem_take this))).len
  refine ⟨_, rfl, pt, _, _, .ref rl, rfl, rfl, SqT.of (s0 _ _ h.hpt), rfl, rl, xr, rfl, .inl (SqL.of (s0 _ _ hxr)), xr.length, rfl, by omega, fun D1 xs1 H6 s6 nD1 hD1 hx1 => ?_⟩
  rw [lxr] at hx1
  have nfD : D1 ≠ fl := fun z => by rw [z, hfl] at nD1; cases nD1
  have lx1 := hx1.length
  have l16 := subs_le (n := rs.length) (by omega)
  have hfl6 := s6 _ _ hfl
  refine ⟨D1, rfl, ⟨_, SqL.of hD1⟩, for_list (K := g.K) (a := D1) (xs := xs1) (fun i σ H' => ∃ (ys : List V) (p9 p10 : Option V), σ = [some (.ref pt), some (.ref wt), p2, p3, some (.ref st), some (.ref lo), some (.ref on), some (.ref x), some (.ref fl), p9, p10, none, none] ∧ Ch [fl] H6 H' ∧ H' fl = some (.lst ys) ∧ Paired (LsNe fl H') ys (((subs rs.length).take i).filter fun c => fairB rs c aps ml)) ⟨[], none, none, rfl, Ch.refl _, hfl6, .nil⟩ (fun i σ H' _ ⟨_, _, _, _, z, _⟩ => SqL.of (z _ _ hD1 (by simpa using nfD))) ?_ ?_⟩
  · rintro i v σ H' hv ⟨ys, p9, p10, rfl, c6, hf', hys⟩
    obtain ⟨c, hc, a, rfl, na, ha⟩ := paired_get hx1 hv
    have cm := List.mem_of_getElem? hc
    obtain ⟨casc, crng⟩ := subs_ok _ c cm
    have nafl : a ≠ fl := fun z => by rw [z, hfl] at na; cases na
    have ha' := c6 _ _ ha (by simpa using nafl)
    have s' : Same B H' := Same.ch (s0.trans s6) nfl c6
    have il := (List.getElem?_eq_some_iff.mp hv).1
    have cl4 := asc_len casc crng
    have lqs : (((subs rs.length).take i).filter fun c => fairB rs c aps ml).length ≤ 16 := Nat.le_trans (List.length_filter_le _ _) (by rw [List.length_take]; omega)
    have tk : (((subs rs.length).take (i + 1)).filter fun c => fairB rs c aps ml) = (((subs rs.length).take i).filter fun c => fairB rs c aps ml) ++ if fairB rs c aps ml = true then [c] else [] := by
      rw [List.take_add_one, hc, Option.toList_some, List.filter_append, List.filter_cons, List.filter_nil]
    show t_k3_6 g _ [some (.ref pt), some (.ref wt), p2, p3, some (.ref st), some (.ref lo), some (.ref on), some (.ref x), some (.ref fl), some (.ref a), p10, none, none] H'
    refine s_asg ?_
    refine meth_wd (v := .ref a) (es := c) rfl (hx.mono s') (fun Q q => ⟨_, rfl, q⟩) n1 (by omega) w8 (by omega) (.inr ⟨c, ⟨a, rfl, .inl (SqL.of ha')⟩, by omega, ascI_nodup casc, crng, casc, fun _ => Iff.rfl⟩) fun y H2 s2 ny hy => ?_
    have s02 := s'.trans s2
    refine ⟨_, rfl, _, rfl, y, st, lo, rs, c, us1, us2, ms.take f, ml, ps.take (l + 1), rfl, hy, sm, crng, Same.tup s02 hst, Same.tup s02 hlo, paired_mono (fun _ _ z => z.mono s02) m1, paired_mono (fun _ _ z => z.mono s02) m2, by rw [em]; exact h.wk.take lm, by rw [em, List.length_take]; omega, fun H3 s3 => ?_⟩
    rw [lf, ep, ef]
    have s03 := s02.trans s3
    show t_k3_7 g _ [some (.ref pt), some (.ref wt), p2, p3, some (.ref st), some (.ref lo), some (.ref on), some (.ref x), some (.ref fl), some (.ref a), some (.bl (fairB rs c aps ml)), none, none] H3
    refine ⟨_, rfl, _, .ty "bool", _, _, true, rfl, .ty _, .base (.bl _), kb (by decide +kernel), true, rfl, iteF ?_⟩
    have ha3 := s3 _ _ (s2 _ _ ha')
    refine ⟨_, rfl, _, rfl, pt, _, _, .ref rl, rfl, rfl, SqT.of (s03 _ _ h.hpt), rfl, _, rfl, _, rfl, _, rfl, rl, a, on, lo, rs, c, oy, us2, oq, ml, rfl, h.hr.mono s03, sm, r24, ha3, crng, s03 _ _ hon, paired_mono (fun _ _ z => z.mono s03) hoq, pok, Same.tup s03 hlo, paired_mono (fun _ _ z => z.mono s03) m2, lenM, by rw [← hML, List.length_take, List.length_drop]; omega, fun H4 s4 => ?_⟩
    rw [eo]
    refine ⟨rfl, _, rfl, ?_⟩
    rw [decide_eq_true rfl]
    refine iteF ?_
    show t_k3_8 g _ [some (.ref pt), some (.ref wt), p2, p3, some (.ref st), some (.ref lo), some (.ref on), some (.ref x), some (.ref fl), some (.ref a), some (.bl (fairB rs c aps ml)), none, none] H4
    have sH4 : Same H' H4 := s2.trans (s3.trans s4)
    refine pure_k3_8 (sH4 _ _ hf') (paired_mono (fun _ _ z => z.mono sH4) hys) (by omega) nafl (s4 _ _ ha3) fun H5 ys' c5 hf5 hy5 => ?_
    refine ⟨ys', _, _, rfl, c6.trans ((Ch.same sH4).trans c5), hf5, ?_⟩
    rw [tk]; exact hy5
  · rintro σ H' ⟨ys, p9, p10, rfl, c6, hf', hys⟩
    rw [lx1, List.take_length] at hys
    have s' : Same B H' := Same.ch (s0.trans s6) nfl c6
    exact pure_k3_9 (ar := aps) (ml := ml) h.hpt h.hr (by omega) s' hf' (paired_mono (fun _ _ z => z.ls) hys) q
theorem pure_k23__law_holds {g : Ga} {vs : List V} {H : Hp} {Q : VK} {E : XK} {N : List Str} (hN : N.length = 13) (h : sp_k23_holds g vs H Q E) : t_k23__law_holds g (endsQ Q) (L2.start N vs) H := by
  obtain ⟨pt, rl, cl, wt, rt, pl, f, l, zs, rs, ks, us, xs, ms, ps, rfl, h, fl, lm, back, q⟩ := h
  have e0 : L2.start N [.ref pt, .ref wt, .int f, .int l] = [some (.ref pt), some (.ref wt), some (.int f), some (.int l), none, none, none, none, none, none, none, none, none] := by unfold L2.start; rw [hN]; rfl
  rw [e0]
  have lu := h.hm.length
  have lx := h.hs.length
  have wl := h.wk.len
  have few := h.few
  refine ⟨_, rfl, wt, _, _, .ref rt, rfl, rfl, SqT.of h.hwt, rfl, _, rfl, _, rfl, sl_tup h.hu fun st H1 s1 hst => ?_⟩
  rw [cutV_to (by omega)] at hst
  show t_k3_1 g (endsQ Q) [some (.ref pt), some (.ref wt), some (.int f), some (.int l), some (.ref st), none, none, none, none, none, none, none, none] H1
  refine ⟨_, rfl, wt, _, _, .ref rt, rfl, rfl, SqT.of (s1 _ _ h.hwt), rfl, _, rfl, _, rfl, _, rfl, _, rfl, sl_tup (Same.tup s1 h.hu) fun lo H2 s2 hlo => ?_⟩
  rw [cutV_slice (by omega) fl] at hlo
  have s02 := s1.trans s2
  show t_k3_2 g (endsQ Q) [some (.ref pt), some (.ref wt), some (.int f), some (.int l), some (.ref st), some (.ref lo), none, none, none, none, none, none, none] H2
  refine ⟨_, rfl, wt, _, _, .ref pl, rfl, rfl, SqT.of (s02 _ _ h.hwt), rfl, _, rfl, _, rfl, _, rfl, _, _, rfl, rfl, _, rfl, pl, xs, rfl, SqL.of (s02 _ _ h.hp), fun np hnp => ?_⟩
  have el : (l : Int) + 1 = ((l + 1 : Nat) : Int) := by omega
  have s3 : Same H2 (upd H2 np (.lst (cutV xs (some (f : Int)) (some ((l : Int) + 1))))) := Same.new hnp
  have s03 := s02.trans s3
  refine ⟨np, (xs.drop f).take (l + 1 - f), (ps.drop f).take (l + 1 - f), rfl, by rw [upd_same, el, cutV_slice (by omega) (by omega)], paired_mono (fun _ _ z => z.mono s03) (paired_take _ (paired_drop f h.hs)), by rw [List.length_take, List.length_drop]; omega, fun on oy oq H4 s4 non hon hoq mem => ?_⟩
  have s04 := s03.trans s4
  show t_k3_3 g (endsQ Q) [some (.ref pt), some (.ref wt), some (.int f), some (.int l), some (.ref st), some (.ref lo), some (.ref on), none, none, none, none, none, none] H4
  refine ⟨_, rfl, pt, _, _, .ref rl, rfl, rfl, SqT.of (s04 _ _ h.hpt), rfl, _, rfl, pt, _, _, .ref cl, rfl, rfl, SqT.of (s04 _ _ h.hpt), rfl, rl, cl, rs, ks, rfl, h.hr.mono s04, s04 _ _ h.hcl, h.dr.sys (by decide) (by decide) (by decide), fun x H5 s5 nx hx => ?_⟩
  have s05 := s04.trans s5
  have s25 := s3.trans (s4.trans s5)
  show t_k3_4 g (endsQ Q) [some (.ref pt), some (.ref wt), some (.int f), some (.int l), some (.ref st), some (.ref lo), some (.ref on), some (.ref x), none, none, none, none, none] H5
  refine ⟨by show 0 ≤ sizeLine; decide, fun fa hfa => ?_⟩
  exact pure_k3_5 (h.mono s05) fl lm back (Same.tup (s2.trans s25) hst) (paired_mono (fun _ _ z => z.mono s05) (paired_take f h.hm)) (Same.tup s25 hlo) (paired_mono (fun _ _ z => z.mono s05) (paired_take _ (paired_drop f h.hm))) (s5 _ _ hon) (paired_mono (fun _ _ z => z.mono s5) hoq) mem hx hfa (Same.new hfa) upd_same fun H' s' => q H' (s05.trans s')
/-! ### the law -/
theorem WalkB.holds {g : Ga} {B H : Hp} {Q : VK} {E : XK} {σ : L2.St} {ta : TA} {pt rl cl wt rt pl : Addr} {zs : List Str} {rs : List Rw} {ks : List Int} {us xs : List V} {ms : List Move} {ps : List (List Int)} (h : WalkB g B pt rl cl wt rt pl zs rs ks us xs ms ps) (s : Same B H) {f l : Nat} (fl : f ≤ l) (lm : l < ps.length) (e : ps[f]? = ps[l]?) (ha : ∀ R : List V → Hp → Prop, R [.ref pt, .ref wt, .int f, .int l] H → ta σ H R) (q : ∀ H', Same H H' → Q (.bl true) H') : tCall (sp_k23_holds g) [] E ta σ H Q :=
  ha _ ⟨pt, rl, cl, wt, rt, pl, f, l, zs, rs, ks, us, xs, ms, ps, rfl, h.mono s, fl, by have := h.wk.len; omega, e, q⟩
def sp_k23_law (g : Ga) : Sp := fun vs H Q _ => ∃ (a : Addr) (ns : List Int), vs = [.ref a] ∧ SqL g.K H a (ns.map V.int) ∧ ns.length ≤ 63 ∧ ∀ H', Q (.bl true) H'
def t_k23_4 (g : Ga) : TS := (tRet (tAndV (tCall (sp_k23_holds g) [] E0 (tCons (tVar 1) (tCons (tVar 2) (tCons (tOp (rIxT g.K) (tVar 4) (tC (.int 0))) (tCons (tOp (rIxT g.K) (tVar 4) (tC (.int 1))) tNil))))) (tCall (sp_k23_holds g) [] E0 (tCons (tVar 1) (tCons (tVar 2) (tCons (tOp (rIxT g.K) (tVar 4) (tC (.int 0))) (tCons (tOp (rIxT g.K) (tVar 4) (tC (.int 0))) tNil)))))))
def t_k23_3 (g : Ga) : TS := (tSeq (tAsg (tCall (sp_law_cut g) [] E0 (tCons (tVar 3) (tCons (tVar 2) tNil))) (gName 4)) (t_k23_4 g))
def t_k23_2 (g : Ga) : TS := (tSeq (tIfS (tNot (tB (tCall (sp_k23_holds g) [] E0 (tCons (tVar 1) (tCons (tVar 2) (tCons (tOp (rIxT g.K) (tVar 4) (tC (.int 0))) (tCons (tOp (rIxT g.K) (tVar 4) (tC (.int 1))) tNil))))))) (tRet (tC (.bl false))) tNext) (t_k23_3 g))
def t_k23_1 (g : Ga) : TS := (tSeq (tAsg (tCall (sp_law_cut g) [] E0 (tCons (tVar 3) (tCons (tVar 2) tNil))) (gName 4)) (t_k23_2 g))
def t_k23_law (g : Ga) : TS := (tSeq (tAsg (tCall (sp_law_rows g) [] E0 (tCons (tVar 0) (tCons (tC (.int 3)) (tCons (tC (.int 4)) (tCons (tC (.int 3)) (tCons (tC (.int 4)) tNil)))))) (gName 1)) (tSeq (tAsg (tCall (sp_law_walk g) [] E0 (tCons (tOp (rIxT g.K) (tVar 1) (tC (.int 0))) (tCons (tSl (rSlL g.K) (tVar 0) (tPart (tC (.int 5))) (tPart (tC (.int 25)))) tNil))) (gName 2)) (tSeq (tAsg (tCall (sp_law_pool g) [] E0 (tCons (tCall (sp_law_cell g) [] E0 (tCons (tVar 0) (tCons (tC (.int 4)) tNil))) tNil)) (gName 3)) (t_k23_1 g))))
theorem pure_k23_law {g : Ga} {vs : List V} {H : Hp} {Q : VK} {E : XK} {N : List Str} (hN : N.length = 5) (h : sp_k23_law g vs H Q E) : t_k23_law g (endsQ Q) (L2.start N vs) H := by
  obtain ⟨a, ns, rfl, ha, n63, q⟩ := h
  have e0 : L2.start N [.ref a] = [some (.ref a), none, none, none, none] := by unfold L2.start; rw [hN]; rfl
  rw [e0]
  refine ⟨_, rfl, a, ns, 3, 4, 3, 4, rfl, ha, by decide, by decide, by decide, by decide, by decide, by decide, by decide, by decide, fun pt rl cl rs ks zs H1 s1 npt nrl ncl hpt hr hcl dr => ?_⟩
  have sm := dr.small (by decide) (by decide)
  have r24 : ∀ r ∈ rs, r.2.length ≤ 24 := fun r h => (dr.ok r h).l2
  obtain ⟨cs, ecs, lcs⟩ := cut_ints ns (some 5) (some 25)
  refine ⟨_, rfl, pt, _, _, .ref rl, rfl, rfl, SqT.of hpt, rfl, _, rfl, _, rfl, _, rfl, a, _, rfl, s1.seq ha, fun c hc => ?_⟩
  have s3 : Same H1 (upd H1 c (.lst (cutV (ns.map V.int) (some 5) (some 25)))) := Same.new hc
  refine ⟨rl, c, rs, cs, rfl, hr.mono s3, SqL.of (by rw [upd_same, ecs]), by omega, sm, r24, fun wt rt pl us xs ms ps H4 s4 hwt hu hm hp hs wk ml => ?_⟩
  have s14 := s3.trans s4
  have wb : WalkB g H4 pt rl cl wt rt pl zs rs ks us xs ms ps := ⟨s14 _ _ hpt, hr.mono s14, s14 _ _ hcl, dr, hwt, hu, hm, hp, hs, wk, by omega⟩
  have wl := wk.len
  refine ⟨_, rfl, a, ns, 4, rfl, (s1.trans s14).seq ha, by decide, _, rfl, fun pp o po npp => ?_⟩
  have s5 : Same H4 (upd H4 pp o) := Same.new npp
  have npl : pl ≠ pp := ne_of_none hp npp
  refine ⟨_, rfl, _, rfl, pp, wt, rt, pl, o, xs, ps, rfl, upd_same, po, s5 _ _ hwt, s5 _ _ hp, npl, paired_mono (fun _ _ z => z.mono s5) hs, by omega, by omega, fun t f l o1 H6 ch hp6 po6 ht fl lp back => ?_⟩
  have s6 := Same.ch s5 npp ch
  show t_k23_2 g (endsQ Q) [some (.ref a), some (.ref pt), some (.ref wt), some (.ref pp), some (.ref t)] H6
  refine s_nif (wb.holds s6 fl lp back (fun R r => ⟨_, rfl, _, rfl, _, rfl, t, _, _, .int f, rfl, rfl, SqT.of ht, rfl, _, rfl, t, _, _, .int l, rfl, rfl, SqT.of ht, rfl, r⟩) fun H7 s7 => ⟨true, rfl, iteF ?_⟩)
  have s07 := s6.trans s7
  show t_k23_3 g (endsQ Q) [some (.ref a), some (.ref pt), some (.ref wt), some (.ref pp), some (.ref t)] H7
  refine ⟨_, rfl, _, rfl, pp, wt, rt, pl, o1, xs, ps, rfl, s7 _ _ hp6, po6, s07 _ _ hwt, s07 _ _ hp, npl, paired_mono (fun _ _ z => z.mono s07) hs, by omega, by omega, fun t f l o1 H8 ch hp8 po8 ht fl lp back => ?_⟩
  have s8 := Same.ch s07 npp ch
  show t_k23_4 g (endsQ Q) [some (.ref a), some (.ref pt), some (.ref wt), some (.ref pp), some (.ref t)] H8
  refine s_rt (t_and (Q := Q) (wb.holds s8 fl lp back (fun R r => ⟨_, rfl, _, rfl, _, rfl, t, _, _, .int f, rfl, rfl, SqT.of ht, rfl, _, rfl, t, _, _, .int l, rfl, rfl, SqT.of ht, rfl, r⟩) fun H9 s9 => ⟨true, rfl, iteT ?_⟩))
  have ht9 := s9 _ _ ht
  exact wb.holds (s8.trans s9) (Nat.le_refl f) (by omega) rfl (fun R r => ⟨_, rfl, _, rfl, _, rfl, t, _, _, .int f, rfl, rfl, SqT.of ht9, rfl, _, rfl, t, _, _, .int f, rfl, rfl, SqT.of ht9, rfl, r⟩) fun H10 s10 => q H10
end Sd
namespace Sd
open PySem PySem.Spec PyProof.Rows L2
/-! ### how many standings there are -/
def cart : List (List Int) → List (List Int)
  | [] => [[]]
  | L :: Ls => L.flatMap fun x => (cart Ls).map (x :: ·)
noncomputable def cartN (rs : List Rw) : Nat := (cart (rs.map fun r => reachL r.2 r.1)).length
theorem stand_tail {r : Rw} {rs : List Rw} {z : Int} {p : List Int} (h : StandI (r :: rs) (z :: p)) : z ∈ reachL r.2 r.1 ∧ StandI rs p := by
  refine ⟨?_, ⟨by have := h.len; simpa using this, fun i r' hr => ?_⟩⟩
  · obtain ⟨y, hy, m⟩ := h.st 0 r rfl
    simp at hy
    rw [hy]; exact m
  · obtain ⟨y, hy, m⟩ := h.st (i + 1) r' hr
    exact ⟨y, by simpa using hy, m⟩
theorem stand_cart : ∀ {rs : List Rw} {p : List Int}, StandI rs p → p ∈ cart (rs.map fun r => reachL r.2 r.1)
  | [], p, h => by
    have := h.len
    have e : p = [] := List.length_eq_zero_iff.mp this
    rw [e]; exact List.mem_singleton.mpr rfl
  | r :: rs, [], h => by have := h.len; simp at this
  | r :: rs, z :: p, h => by
    obtain ⟨hz, hp⟩ := stand_tail h
    rw [List.map_cons]
    exact List.mem_flatMap.mpr ⟨z, hz, List.mem_map.mpr ⟨p, stand_cart hp, rfl⟩⟩
theorem stands_le {rs : List Rw} {l : List (List Int)} (nd : l.Nodup) (h : ∀ p ∈ l, StandI rs p) : l.length ≤ cartN rs := nodup_leG l _ nd fun p hp => stand_cart (h p hp)
theorem flat_const {α β : Type} {f : α → List β} {n : Nat} (h : ∀ a, (f a).length = n) : ∀ l : List α, (l.flatMap f).length = l.length * n
  | [] => by simp
  | a :: l => by rw [List.flatMap_cons, List.length_append, flat_const h l, h a, List.length_cons, Nat.succ_mul]; omega
theorem cartN_cons (r : Rw) (rs : List Rw) : cartN (r :: rs) = (reachL r.2 r.1).length * cartN rs := by
  unfold cartN
  rw [List.map_cons]
  show (List.flatMap _ _).length = _
  exact flat_const (fun a => by rw [List.length_map]) _
theorem cartN_nil : cartN [] = 1 := rfl
/-! ### a round, and all rounds -/
noncomputable def fm (rs : List Rw) (p : List Int) (h : Nat) : Option Move := (movesOf rs p).find? fun m => (m.2[h]?.getD none).isSome
noncomputable def rnd (rs : List Rw) : List Int → List Int → List Move × List Int
  | [], p => ([], p)
  | d :: ds, p => match fm rs p d.toNat with
    | none => rnd rs ds p
    | some m => (m :: (rnd rs ds (behindOf rs p m.2)).1, (rnd rs ds (behindOf rs p m.2)).2)
noncomputable def goR (rs : List Rw) (ds : List Int) : Nat → List Int → List Move → List (List Int × Nat) → List Move × Nat
  | 0, _, made, _ => (made, 0)
  | n + 1, p, made, bs => match bs.lookup p with
    | some b => (made, b)
    | none => goR rs ds n (rnd rs ds p).2 (made ++ (rnd rs ds p).1) (bs ++ [(p, made.length)])
noncomputable def frun (rs : List Rw) (ds : List Int) (p : List Int) : List Move × Nat := goR rs ds (cartN rs + 1) p [] []
theorem fm_some {rs : List Rw} {p : List Int} {h : Nat} {m : Move} (e : fm rs p h = some m) : m ∈ movesOf rs p ∧ (m.2[h]?.getD none).isSome = true := by
  unfold fm at e
  exact ⟨List.mem_of_find?_eq_some e, by have := List.find?_some e; exact this⟩
theorem fm_none {rs : List Rw} {p : List Int} {h : Nat} (e : fm rs p h = none) : (h : Int) ∉ ableOf rs p := fun m => by
  unfold fm at e
  rw [List.find?_eq_none] at e
  obtain ⟨k, hk, ek⟩ := List.mem_map.mp m
  have ek' : k = h := by omega
  subst ek'
  have := (List.mem_filter.mp hk).2
  obtain ⟨m', hm', z⟩ := List.any_eq_true.mp this
  exact e m' hm' z
/-- hand d is served from place b on -/
def Served (rs : List Rw) (n : Nat) (ps : List (List Int)) (made : List Move) (d : Int) (b : Nat) : Prop :=
  ∃ i, b ≤ i ∧ ((∃ q, ps[n + i]? = some q ∧ d ∉ ableOf rs q) ∨ ∃ m, made[i]? = some m ∧ (m.2[d.toNat]?.getD none).isSome = true)
theorem get_app {α : Type} {l m : List α} {i : Nat} {a : α} (h : l[i]? = some a) : (l ++ m)[i]? = some a := by
  rw [List.getElem?_append_left (List.getElem?_eq_some_iff.mp h).1]; exact h
theorem Served.more {rs : List Rw} {n : Nat} {ps ps' : List (List Int)} {made made' : List Move} {d : Int} {b : Nat} (h : Served rs n ps made d b) : Served rs n (ps ++ ps') (made ++ made') d b := by
  obtain ⟨i, hb, z⟩ := h
  refine ⟨i, hb, z.imp (fun ⟨q, e, r⟩ => ⟨q, get_app e, r⟩) fun ⟨m, e, r⟩ => ⟨m, get_app e, r⟩⟩
structure BsOk (rs : List Rw) (ds : List Int) (n : Nat) (ps : List (List Int)) (made : List Move) (bs : List (List Int × Nat)) : Prop where
  nd : (bs.map (·.1)).Nodup
  ix : ∀ q b, (q, b) ∈ bs → b ≤ made.length ∧ ps[n + b]? = some q
  sv : ∀ q b, (q, b) ∈ bs → ∀ d ∈ ds, Served rs n ps made d b
  ln : made.length ≤ ds.length * bs.length
theorem BsOk.round {rs : List Rw} {ds : List Int} {n : Nat} {ps ps' : List (List Int)} {made made' : List Move} {bs : List (List Int × Nat)} {p : List Int} (h : BsOk rs ds n ps made bs) (np : bs.lookup p = none) (hp : ps[n + made.length]? = some p) (sv : ∀ d ∈ ds, Served rs n (ps ++ ps') (made ++ made') d made.length) (ln : made'.length ≤ ds.length) : BsOk rs ds n (ps ++ ps') (made ++ made') (bs ++ [(p, made.length)]) := by
  have nin : p ∉ bs.map (·.1) := fun z => by
    obtain ⟨⟨q, b⟩, hq, rfl⟩ := List.mem_map.mp z
    rw [List.lookup_eq_none_iff] at np
    have := np _ hq
    simp at this
  refine ⟨?_, fun q b hq => ?_, fun q b hq d hd => ?_, ?_⟩
  · rw [List.map_append, List.nodup_append]
    exact ⟨h.nd, by simp, fun a ha b hb e => nin (by rw [List.map_cons, List.map_nil, List.mem_singleton] at hb; have hb' : b = p := hb; rw [← hb', ← e]; exact ha)⟩
  · rcases List.mem_append.mp hq with z | z
    · have := h.ix q b z
      exact ⟨by rw [List.length_append]; omega, get_app this.2⟩
    · cases List.mem_singleton.mp z
      exact ⟨by rw [List.length_append]; omega, get_app hp⟩
  · rcases List.mem_append.mp hq with z | z
    · exact (h.sv q b z d hd).more
    · cases List.mem_singleton.mp z
      exact sv d hd
  · rw [List.length_append, List.length_append]
    have := h.ln
    show _ ≤ ds.length * (bs.length + 1)
    rw [Nat.mul_succ]; omega
theorem lookup_mem {bs : List (List Int × Nat)} {p : List Int} {b : Nat} : bs.lookup p = some b → (p, b) ∈ bs := by
  induction bs with
  | nil => intro h; cases h
  | cons a L ih =>
    obtain ⟨q, c⟩ := a
    intro h
    rw [List.lookup_cons] at h
    by_cases e : (p == q) = true
    · rw [e] at h
      have : p = q := by simpa using e
      subst this
      cases h
      exact List.mem_cons_self
    · have e' : (p == q) = false := by simpa using e
      rw [e'] at h
      exact List.mem_cons_of_mem _ (ih h)
/-- the loop that was found is fair -/
theorem BsOk.fair {rs : List Rw} {ds : List Int} {n : Nat} {ps : List (List Int)} {made : List Move} {bs : List (List Int × Nat)} {p : List Int} {b : Nat} (h : BsOk rs ds n ps made bs) (hb : bs.lookup p = some b) (lp : ps.length = n + made.length + 1) (hl : ps.getLast? = some p) :
    isFairB rs ds (ps.drop (n + b)) (made.drop b) = true := by
  have hm := lookup_mem hb
  have ix := h.ix p b hm
  have g0 : (ps.drop (n + b))[0]? = some p := by rw [List.getElem?_drop, Nat.add_zero]; exact ix.2
  have gl : (ps.drop (n + b)).getLast? = some p := by rw [List.getLast?_drop, if_neg (by omega)]; exact hl
  unfold isFairB
  rw [g0, gl, decide_eq_true rfl, Bool.true_and, fairB_all, List.all_eq_true]
  intro d hd
  obtain ⟨i, bi, z⟩ := h.sv p b hm d hd
  unfold goodH
  rcases z with ⟨q, hq, na⟩ | ⟨m, hm2, tk⟩
  · have : allAble rs (ps.drop (n + b)) d = false := by
      unfold allAble
      rw [List.all_eq_false]
      refine ⟨q, List.mem_iff_getElem?.mpr ⟨i - b, ?_⟩, by simpa using na⟩
      rw [List.getElem?_drop, show n + b + (i - b) = n + i by omega]; exact hq
    rw [this]; rfl
  · have : takesB (made.drop b) d.toNat = true := by
      unfold takesB
      rw [List.any_eq_true]
      refine ⟨m, List.mem_iff_getElem?.mpr ⟨i - b, ?_⟩, tk⟩
      rw [List.getElem?_drop, show b + (i - b) = i by omega]; exact hm2
    rw [this]; simp
end Sd
namespace Sd
open PySem PySem.Spec PyProof.Rows L2
theorem room1 {k : Nat} {A : Around} (hr : Room k A) : A.units + 1 < cLine := by have := hr.un; omega
theorem while_ix {c : TT} {tb : TS} {D : Ends} {σ : L2.St} {H : Hp} (Pv : Nat → L2.St → Hp → Prop) {m0 : Nat} (h0 : Pv m0 σ H)
    (hs : ∀ m σ H, Pv m σ H → c σ H fun b H1 => if b = true then tb { D with nx := fun σ' H' => ∃ m', m' < m ∧ Pv m' σ' H', ct := fun σ' H' => ∃ m', m' < m ∧ Pv m' σ' H', bk := D.nx } σ H1 else D.nx σ H1)
    (mono : ∀ σ H Q Q', (∀ b H1, Q b H1 → Q' b H1) → c σ H Q → c σ H Q') : tWhile c tb D σ H := by
  refine ⟨Pv, ⟨m0, h0⟩, fun m σ H p => ?_⟩
  refine mono σ H _ _ (fun b H1 q => ?_) (hs m σ H p)
  cases b with
  | true => exact ⟨_, fun σ' H' z => z, q⟩
  | false => exact q
/-! ### end_of -/
def sp_end_of (g : Ga) : Sp := fun vs H Q _ => ∃ (x rt : Addr) (rs : List Rw) (ds : List Int) (us : List V) (ms : List Move) (ps : List (List Int)) (p : List Int), vs = [.ref x, .ref rt] ∧ SysAt g H x rs ds ∧ SmallR rs ∧ SqT g.K H rt us ∧ Paired (MoveAt g.K H) us ms ∧ WalkOk rs ps ms ∧ ms.length ≤ 5000 ∧ ps.getLast? = some p ∧ ∀ v H', Same H H' → StAt g.K H' v p → Q v H'
def t_end_of (g : Ga) (E : XK) : TS := (tRet (tOp (rIxL g.K) (tCall (sp_walked g) [] E (tCons (tVar 0) (tCons (tVar 1) tNil))) (tUn rNeg (tC (.int 1)))))
theorem paired_last {α β : Type} {F : α → β → Prop} {l : List α} {m : List β} {b : β} (h : Paired F l m) (hb : m.getLast? = some b) : ∃ a, l.getLast? = some a ∧ F a b := by
  have hl := h.length
  rw [List.getLast?_eq_getElem?] at hb
  have il := (List.getElem?_eq_some_iff.mp hb).1
  obtain ⟨b', hb', z⟩ := paired_get h (List.getElem?_eq_getElem (show l.length - 1 < l.length by omega))
  rw [hl, hb] at hb'
  cases hb'
  exact ⟨_, by rw [List.getLast?_eq_getElem?]; exact List.getElem?_eq_getElem _, z⟩
theorem pure_end_of {g : Ga} {vs : List V} {H : Hp} {Q : VK} {E : XK} {N : List Str} (hN : N.length = 2) (h : sp_end_of g vs H Q E) : t_end_of g E (endsQ Q) (L2.start N vs) H := by
  obtain ⟨x, rt, rs, ds, us, ms, ps, p, rfl, hx, sm, hu, hm, wk, few, hl, q⟩ := h
  have e0 : L2.start N [.ref x, .ref rt] = [some (.ref x), some (.ref rt)] := by unfold L2.start; rw [hN]; rfl
  rw [e0]
  refine ⟨_, rfl, _, rfl, x, rt, rs, ds, us, ms, ps, rfl, hx, sm, hu, hm, wk, few, fun D xs H' s nD hD hxs => ?_⟩
  obtain ⟨y, hy, sty⟩ := paired_last hxs hl
  exact ⟨_, rfl, D, xs, _, y, rfl, rfl, SqL.of hD, atI_getLast hy, q y H' s sty⟩
/-! ### first_move -/
def OptMv (K : PySem.W.Frag) (H : Hp) (v : V) : Option Move → Prop
  | none => v = .non
  | some m => MoveAt K H v m
def sp_first_move (g : Ga) : Sp := fun vs H Q _ => ∃ (x : Addr) (u : V) (h : Nat) (rs : List Rw) (ds p : List Int), vs = [.ref x, u, .int h] ∧ SysAt g H x rs ds ∧ SmallR rs ∧ StAt g.K H u p ∧ StandI rs p ∧ h < rs.length ∧ ∀ v H', Same H H' → OptMv g.K H' v (fm rs p h) → Q v H'
def t_fm_2 (g : Ga) (E : XK) : TS := (tRet (tC .non))
def t_fm_1 (g : Ga) (E : XK) : TS := (tIfS (tTest (tOp rNotN (tOp (rIxT g.K) (tOp (rIxT g.K) (tVar 3) (tC (.int 1))) (tVar 2)) (tC .non))) (tRet (tVar 3)) tNext)
def t_first_move (g : Ga) (E : XK) : TS := (tSeq (tFor (iList g.K (tMeth g.cSystem "moves" (sp_System_moves g) [] E (tVar 0) (tCons (tVar 1) tNil))) (gName 3) (t_fm_1 g E)) (t_fm_2 g E))
theorem find_take {α : Type} {f : α → Bool} : ∀ {l : List α} {i : Nat} {a : α}, (l.take i).find? f = none → l[i]? = some a → f a = true → l.find? f = some a
  | [], i, a, _, h, _ => by simp at h
  | b :: l, 0, a, _, h, e => by
    simp at h
    subst h
    rw [List.find?_cons, e]
  | b :: l, i + 1, a, h1, h, e => by
    rw [List.take_succ_cons, List.find?_cons] at h1
    cases c : f b with
    | true => rw [c] at h1; cases h1
    | false =>
      rw [c] at h1
      rw [List.find?_cons, c]
      exact find_take h1 (by simpa using h) e
theorem pure_first_move {g : Ga} {vs : List V} {H : Hp} {Q : VK} {E : XK} {N : List Str} (hN : N.length = 4) (h : sp_first_move g vs H Q E) : t_first_move g E (endsQ Q) (L2.start N vs) H := by
  obtain ⟨x, u, h, rs, ds, p, rfl, hx, sm, hu, st, hlt, q⟩ := h
  have e0 : L2.start N [.ref x, u, .int h] = [some (.ref x), some u, some (.int h), none] := by unfold L2.start; rw [hN]; rfl
  rw [e0]
  refine meth_moves (Q := fun v H1 => ∃ a, v = .ref a ∧ (∃ ys, SqL g.K H1 a ys) ∧ _) rfl hx (fun Q q => ⟨_, rfl, q⟩) hu st sm fun D H1 s1 nD hD => ?_
  obtain ⟨vs, hv1, hv2⟩ := hD.ex
  have lv := hv2.length
  refine ⟨D, rfl, ⟨_, SqL.of hv1⟩, for_list (K := g.K) (a := D) (xs := vs) (fun i σ H' => ∃ p3 : Option V, σ = [some (.ref x), some u, some (.int h), p3] ∧ Same H1 H' ∧ ((movesOf rs p).take i).find? (fun m => (m.2[h]?.getD none).isSome) = none) ⟨none, rfl, Same.refl _, rfl⟩ (fun i σ H' _ ⟨_, _, z, _⟩ => SqL.of (z _ _ hv1)) ?_ ?_⟩
  · rintro i v σ H' hv ⟨p3, rfl, s2, fn⟩
    obtain ⟨m, hm1, ma, mb, rfl, hma, hmb⟩ := paired_get hv2 hv
    have mm := List.mem_of_getElem? hm1
    have hl : h < m.2.length := by rw [(valid_of mm st.len).1]; exact hlt
    have axm : atI (m.2.map optV) ((h : Nat) : Int) = some (optV m.2[h]) := atI_nat (by rw [List.getElem?_map, List.getElem?_eq_getElem hl]; rfl)
    have eg : (m.2[h]?.getD none).isSome = (m.2[h]).isSome := by rw [List.getElem?_eq_getElem hl]; rfl
    show t_fm_1 g E _ [some (.ref x), some u, some (.int h), some (.ref ma)] H'
    refine ⟨_, rfl, ma, _, _, .ref mb, rfl, rfl, Same.tup s2 hma, rfl, _, rfl, mb, _, _, optV m.2[h], rfl, rfl, Same.tup s2 hmb, axm, rfl, _, rfl, ?_⟩
    cases e : m.2[h] with
    | none =>
      refine iteF ⟨_, rfl, s2, ?_⟩
      rw [List.take_add_one, hm1, Option.toList_some, List.find?_append, fn, Option.none_or, List.find?_cons, eg, e]; rfl
    | some z =>
      rw [decide_eq_false (show ¬ optV (some z) = V.non from fun z => by cases z)]
      have ef : fm rs p h = some m := find_take fn hm1 (by rw [eg, e]; rfl)
      refine iteT ⟨_, rfl, q _ H' (s1.trans s2) ?_⟩
      rw [ef]
      exact ⟨ma, mb, rfl, Same.tup s2 hma, Same.tup s2 hmb⟩
  · rintro σ H' ⟨p3, rfl, s2, fn⟩
    rw [lv, List.take_length] at fn
    have ef : fm rs p h = none := fn
    refine q _ H' (s1.trans s2) ?_
    rw [ef]
    rfl
end Sd
namespace Sd
open PySem PySem.Spec PyProof.Rows L2
theorem cat_tup {K : PySem.W.Frag} {H : Hp} {Q : VK} {a b : Addr} {xs ys : List V} (ha : SqT K H a xs) (hb : SqT K H b ys) (lt : xs.length + ys.length ≤ 10000) (q : ∀ p H', Same H H' → SqT K H' p (xs ++ ys) → Q (.ref p) H') : rCatA K (.ref a) (.ref b) H Q :=
  ⟨a, b, xs, ys, rfl, rfl, ha, hb, Nat.le_of_lt (big_line lt), fun e => q b H (Same.refl H) (by rw [e]; exact hb), fun _ e => q a H (Same.refl H) (by rw [e, List.append_nil]; exact ha), fun _ _ p hp => q p _ (Same.new hp) (SqT.of upd_same)⟩
theorem dT_nt {kvs : List (List L2.Key × V)} : (∀ ys, HO.dT kvs ≠ .tup ys) ∧ ∀ v w, HO.dT kvs ≠ .frz v w := ⟨(fun ys z => by cases z), fun v w z => by cases z⟩
theorem MoveAt.updO {K : PySem.W.Frag} {H : Hp} {p : Addr} {o u : HO} {v : V} {l : Move} (hp : H p = some o) (nt : (∀ ys, o ≠ .tup ys) ∧ ∀ v w, o ≠ .frz v w) (h : MoveAt K H v l) : MoveAt K (L2.upd H p u) v l := let ⟨a, b, e, z, y⟩ := h; ⟨a, b, e, sqT_upd hp nt.1 nt.2 z, sqT_upd hp nt.1 nt.2 y⟩
theorem StAt.updO {K : PySem.W.Frag} {H : Hp} {p : Addr} {o u : HO} {v : V} {l : List Int} (hp : H p = some o) (nt : ∀ ys, o ≠ .tup ys) (h : StAt K H v l) : StAt K (L2.upd H p u) v l := let ⟨b, e, z⟩ := h; ⟨b, e, by rw [upd_ne (ne_of z hp (Ne.symm (nt _)))]; exact z⟩
theorem rnd_none {rs : List Rw} {d : Int} {ds p : List Int} (e : fm rs p d.toNat = none) : rnd rs (d :: ds) p = rnd rs ds p := by
  show (match fm rs p d.toNat with | none => _ | some m => _) = _
  rw [e]
theorem rnd_some {rs : List Rw} {d : Int} {ds p : List Int} {m : Move} (e : fm rs p d.toNat = some m) : rnd rs (d :: ds) p = (m :: (rnd rs ds (behindOf rs p m.2)).1, (rnd rs ds (behindOf rs p m.2)).2) := by
  show (match fm rs p d.toNat with | none => _ | some m => _) = _
  rw [e]
/-! ### the dict of begins -/
def keyI (q : List Int) : List L2.Key := q.map .inl
theorem keyI_V (q : List Int) : (keyI q).map kV = q.map V.int := by unfold keyI; rw [List.map_map]; rfl
theorem keyI_inj {p q : List Int} (h : keyI p = keyI q) : p = q := (List.map_inj_right (fun a b z => Sum.inl.inj z)).mp h
def encB (bs : List (List Int × Nat)) : List (List L2.Key × V) := bs.map fun e => (keyI e.1, V.int (e.2 : Int))
theorem val_enc (p : List Int) : ∀ bs : List (List Int × Nat), valV (encB bs) (keyI p) = (bs.lookup p).map fun b : Nat => V.int (b : Int)
  | [] => rfl
  | (q, b) :: bs => by
    unfold encB
    rw [List.map_cons, List.lookup_cons]
    by_cases e : p = q
    · subst e
      rw [valV_pos rfl]; simp
    · rw [valV_neg (fun z => e (keyI_inj z).symm), show (p == q) = false by simpa using e]
      exact val_enc p bs
/-- what fair_run holds while it goes round -/
structure FrAt (g : Ga) (B H : Hp) (md bg : Addr) (u : V) (made : List Move) (p : List Int) (bs : List (List Int × Nat)) : Prop where
  sm : Same B H
  mv : ∃ vs, H md = some (.lst vs) ∧ Paired (MoveAt g.K H) vs made
  dc : H bg = some (.dT (encB bs))
  st : StAt g.K H u p
theorem FrAt.mono {g : Ga} {B H H' : Hp} {md bg : Addr} {u : V} {made : List Move} {p : List Int} {bs : List (List Int × Nat)} (s : Same H H') (h : FrAt g B H md bg u made p bs) : FrAt g B H' md bg u made p bs := by
  obtain ⟨vs, a, b⟩ := h.mv
  exact ⟨h.sm.trans s, ⟨vs, s _ _ a, paired_mono (fun _ _ z => z.mono s) b⟩, s _ _ h.dc, h.st.mono s⟩
def sp_fair_run (g : Ga) : Sp := fun vs H Q _ => ∃ (x rt : Addr) (rs : List Rw) (ds : List Int) (us : List V) (ms : List Move) (ps : List (List Int)) (p : List Int), vs = [.ref x, .ref rt] ∧ SysAt g H x rs ds ∧ SmallR rs ∧ (∀ d ∈ ds, 0 ≤ d ∧ d < (rs.length : Int)) ∧ ds.length ≤ 4 ∧ SqT g.K H rt us ∧ Paired (MoveAt g.K H) us ms ∧ WalkOk rs ps ms ∧ ms.length ≤ 1000 ∧ cartN rs ≤ 500 ∧ ps.getLast? = some p ∧
  ∀ (t st lo : Addr) (us1 us2 : List V) (made : List Move) (b : Nat) (ps' : List (List Int)) (H' : Hp), Same H H' → (made, b) = frun rs ds p → H' t = some (.tup [.ref st, .ref lo]) → SqT g.K H' st us1 → SqT g.K H' lo us2 → Paired (MoveAt g.K H') us1 (ms ++ made.take b) → Paired (MoveAt g.K H') us2 (made.drop b) → WalkOk rs ps' (ms ++ made) → b ≤ made.length → made.length ≤ ds.length * cartN rs → isFairB rs ds (ps'.drop (ms.length + b)) (made.drop b) = true → Q (.ref t) H'
def t_fr_7 (g : Ga) (E : XK) : TS := (tAsg (tCall (sp_led_to g) [] E0 (tCons (tVar 0) (tCons (tVar 2) (tCons (tVar 6) tNil)))) (gName 2))
def t_fr_6 (g : Ga) (E : XK) : TS := (tSeq (tDrop (tBM g.K "list" rApp (tVar 3) (tCons (tVar 6) tNil))) (t_fr_7 g E))
def t_fr_5 (g : Ga) (E : XK) : TS := (tIfS (tTest (tOp rNotN (tVar 6) (tC .non))) (t_fr_6 g E) tNext)
def t_fr_9 (g : Ga) (E : XK) : TS := (tRet (tTup (tCons (tOp (rCatA g.K) (tVar 1) (tCB (rTupS g.K) (tCons (tSl (rSlL g.K) (tVar 3) tNoPart (tPart (tVar 7))) tNil))) (tCons (tCB (rTupS g.K) (tCons (tSl (rSlL g.K) (tVar 3) (tPart (tVar 7)) tNoPart) tNil)) tNil))))
def t_fr_8 (g : Ga) (E : XK) : TS := (tSeq (tAsg (tDGet (tVar 4) (tVar 2)) (gName 7)) (t_fr_9 g E))
def t_fr_4 (g : Ga) (E : XK) : TS := (tSeq (tAsg (tCall (sp_first_move g) [] E (tCons (tVar 0) (tCons (tVar 2) (tCons (tVar 5) tNil)))) (gName 6)) (t_fr_5 g E))
def t_fr_3 (g : Ga) (E : XK) : TS := (tFor (iTup g.K (tFld g.K (tVar 0) "diligent")) (gName 5) (t_fr_4 g E))
def t_fr_2 (g : Ga) (E : XK) : TS := (tSeq (sDPut (tVar 4) (tVar 2) (tCB (rLenS g.K) (tCons (tVar 3) tNil))) (t_fr_3 g E))
def t_fr_1 (g : Ga) (E : XK) : TS := (tSeq (tWhile (tB (tDNotIn (tVar 2) (tVar 4))) (t_fr_2 g E)) (t_fr_8 g E))
def t_fair_run (g : Ga) (E : XK) : TS := (tSeq (tAsg (tCall (sp_end_of g) [] E (tCons (tVar 0) (tCons (tVar 1) tNil))) (gName 2)) (tSeq (tAsg (tLst tNil) (gName 3)) (tSeq (tAsg tDNewT (gName 4)) (t_fr_1 g E))))
/-- one hand is asked -/
theorem pure_fr_4 {g : Ga} {E : XK} {D : Ends} {B H : Hp} {p1 p6 : Option V} {x md bg : Addr} {u : V} {rs : List Rw} {ds p : List Int} {made : List Move} {bs : List (List Int × Nat)} {k : Nat} (hx : SysAt g B x rs ds) (sm : SmallR rs) (nmd : B md = none) (st : StandI rs p) (hk : k < rs.length) (few : made.length ≤ 5000) (h : FrAt g B H md bg u made p bs)
    (q0 : fm rs p k = none → ∀ H', FrAt g B H' md bg u made p bs → D.nx [some (.ref x), p1, some u, some (.ref md), some (.ref bg), some (.int k), some .non, none] H')
    (q1 : ∀ m, fm rs p k = some m → ∀ H' u' v, FrAt g B H' md bg u' (made ++ [m]) (behindOf rs p m.2) bs → D.nx [some (.ref x), p1, some u', some (.ref md), some (.ref bg), some (.int k), some v, none] H') :
    t_fr_4 g E D [some (.ref x), p1, some u, some (.ref md), some (.ref bg), some (.int k), p6, none] H := by
  have n4 := sm.n4
  refine ⟨_, rfl, _, rfl, _, rfl, x, u, k, rs, ds, p, rfl, hx.mono h.sm, sm, h.st, st, hk, fun v H1 s1 hv => ?_⟩
  have h1 := h.mono s1
  show t_fr_5 g E D [some (.ref x), p1, some u, some (.ref md), some (.ref bg), some (.int k), some v, none] H1
  cases e : fm rs p k with
  | none =>
    rw [e] at hv
    have ev : v = .non := hv
    subst ev
    exact ⟨_, rfl, rfl, _, rfl, iteF (q0 e H1 h1)⟩
  | some m =>
    rw [e] at hv
    have hv' : MoveAt g.K H1 v m := hv
    obtain ⟨mm, tk⟩ := fm_some e
    obtain ⟨vl, val⟩ := valid_of mm st.len
    have nv : ¬ v = V.non := fun z => by obtain ⟨a, b, e2, _⟩ := hv'; rw [z] at e2; cases e2
    refine ⟨_, rfl, rfl, _, rfl, ?_⟩
    rw [decide_eq_false nv]
    refine iteT ?_
    show t_fr_6 g E D [some (.ref x), p1, some u, some (.ref md), some (.ref bg), some (.int k), some v, none] H1
    obtain ⟨vs, hmd, hvs⟩ := h1.mv
    have lv := hvs.length
    refine s_drop ⟨_, rfl, .inl ⟨rfl, _, SqL.of hmd⟩, _, rfl, md, _, _, rfl, rfl, hmd, big_line (by omega), ?_⟩
    have nmb : bg ≠ md := ne_of h1.dc hmd (fun z => by cases z)
    have h2 : FrAt g B (upd H1 md (.lst (vs ++ [v]))) md bg u (made ++ [m]) p bs := ⟨Same.own h1.sm nmd, ⟨vs ++ [v], upd_same, paired_app (paired_mono (fun _ _ z => z.upd hmd) hvs) (.cons (hv'.upd hmd) .nil)⟩, by rw [upd_ne nmb]; exact h1.dc, h1.st.upd hmd⟩
    have hv2 := hv'.upd (u := .lst (vs ++ [v])) hmd
    generalize upd H1 md (.lst (vs ++ [v])) = H2 at h2 hv2
    show t_fr_7 g E D [some (.ref x), p1, some u, some (.ref md), some (.ref bg), some (.int k), some v, none] H2
    refine ⟨_, rfl, _, rfl, _, rfl, x, u, v, rs, ds, p, m, rfl, hx.mono h2.sm, h2.st, hv2, st.len, vl, val, by omega, fun u' H3 s3 hu' => ?_⟩
    have h3 := h2.mono s3
    exact q1 m e H3 u' v ⟨h3.sm, h3.mv, h3.dc, hu'⟩
/-- a round -/
theorem pure_fr_3 {g : Ga} {E : XK} {D : Ends} {B H : Hp} {p1 p5 p6 : Option V} {x md bg : Addr} {u : V} {rs : List Rw} {ds p : List Int} {ms made : List Move} {ps : List (List Int)} {bs : List (List Int × Nat)} (T : SysC g) (hx : SysAt g B x rs ds) (sm : SmallR rs) (dok : ∀ d ∈ ds, 0 ≤ d ∧ d < (rs.length : Int)) (d4 : ds.length ≤ 4) (nmd : B md = none) (wk : WalkOk rs ps (ms ++ made)) (hl : ps.getLast? = some p) (few : made.length ≤ 4000) (h : FrAt g B H md bg u made p bs)
    (q : ∀ H' u' p' made' ps' p5 p6, FrAt g B H' md bg u' (made ++ made') p' bs → WalkOk rs (ps ++ ps') (ms ++ (made ++ made')) → (ps ++ ps').getLast? = some p' → made'.length ≤ ds.length → (∀ d ∈ ds, Served rs ms.length (ps ++ ps') (made ++ made') d made.length) → made' = (rnd rs ds p).1 → p' = (rnd rs ds p).2 → D.nx [some (.ref x), p1, some u', some (.ref md), some (.ref bg), p5, p6, none] H') :
    t_fr_3 g E D [some (.ref x), p1, some u, some (.ref md), some (.ref bg), p5, p6, none] H := by
  obtain ⟨dx, hh, d', w', s', hs, g1, g2, g3, g4, g5, g6⟩ := hx.ex
  have n0 := h.sm
  refine ⟨_, rfl, x, _, dx, _, _, rfl, n0 _ _ g1, T.cl, T.n2, sfld_diligent, d', rfl, ⟨_, Same.tup n0 g4⟩, ?_⟩
  refine for_tup (K := g.K) (a := d') (xs := ds.map V.int) (fun i σ H' => ∃ (u' : V) (p' : List Int) (made' : List Move) (ps' : List (List Int)) (p5 p6 : Option V), σ = [some (.ref x), p1, some u', some (.ref md), some (.ref bg), p5, p6, none] ∧ FrAt g B H' md bg u' (made ++ made') p' bs ∧ WalkOk rs (ps ++ ps') (ms ++ (made ++ made')) ∧ (ps ++ ps').getLast? = some p' ∧ made'.length ≤ i ∧ (∀ d ∈ ds.take i, Served rs ms.length (ps ++ ps') (made ++ made') d made.length) ∧ made' ++ (rnd rs (ds.drop i) p').1 = (rnd rs ds p).1 ∧ (rnd rs (ds.drop i) p').2 = (rnd rs ds p).2)
    ⟨u, p, [], [], p5, p6, rfl, by rw [List.append_nil]; exact h, by rw [List.append_nil, List.append_nil]; exact wk, by rw [List.append_nil]; exact hl, Nat.le_refl _, (fun d hd => by cases hd), rfl, rfl⟩ (fun i σ H' _ ⟨_, _, _, _, _, _, _, z, _⟩ => Same.tup z.sm g4) ?_ ?_
  · rintro i v σ H' hv ⟨u', p', made', ps', p5, p6, rfl, h', wk', hl', ml, sv, e1, e2⟩
    obtain ⟨d, hd, rfl⟩ := map_get hv
    have dm := List.mem_of_getElem? hd
    obtain ⟨d0, d1⟩ := dok d dm
    obtain ⟨k, rfl⟩ := Int.eq_ofNat_of_zero_le d0
    have il := (List.getElem?_eq_some_iff.mp hd).1
    have ed : ds.drop i = (k : Int) :: ds.drop (i + 1) := by
      rw [List.drop_eq_getElem_cons il]
      congr 1
      have := List.getElem?_eq_getElem il
      rw [hd] at this
      exact (Option.some.inj this).symm
    rw [ed] at e1 e2
    have pin : p' ∈ ps ++ ps' := List.mem_of_getLast? hl'
    have sp := wk'.st p' pin
    have wl := wk'.len
    rw [List.length_append, List.length_append, List.length_append] at wl
    have at' : (ps ++ ps')[ms.length + (made ++ made').length]? = some p' := by
      rw [List.getLast?_eq_getElem?, List.length_append, wl] at hl'
      rw [List.length_append]
      rw [show ms.length + (made.length + made'.length) + 1 - 1 = ms.length + (made.length + made'.length) by omega] at hl'
      exact hl'
    have tk : ∀ z, z ∈ ds.take (i + 1) → z ∈ ds.take i ∨ z = (k : Int) := fun z hz => by
      rw [List.take_add_one, hd, Option.toList_some, List.mem_append, List.mem_singleton] at hz; exact hz
    show t_fr_4 g E _ [some (.ref x), p1, some u', some (.ref md), some (.ref bg), some (.int (k : Int)), p6, none] H'
    refine pure_fr_4 hx sm nmd sp (by omega) (by rw [List.length_append]; omega) h' (fun e H2 h2 => ?_) fun m e H2 u2 v2 h2 => ?_
    · rw [rnd_none (by rw [Int.toNat_natCast]; exact e)] at e1 e2
      refine ⟨u', p', made', ps', _, _, rfl, h2, wk', hl', by omega, fun z hz => ?_, e1, e2⟩
      rcases tk z hz with y | y
      · exact sv z y
      · subst y
        exact ⟨(made ++ made').length, by rw [List.length_append]; omega, .inl ⟨p', at', fm_none e⟩⟩
    · rw [rnd_some (by rw [Int.toNat_natCast]; exact e)] at e1 e2
      obtain ⟨mm, tkm⟩ := fm_some e
      refine ⟨u2, behindOf rs p' m.2, made' ++ [m], ps' ++ [behindOf rs p' m.2], _, _, rfl, by rw [← List.append_assoc]; exact h2, ?_, by rw [← List.append_assoc]; simp, by rw [List.length_append]; show _ + 1 ≤ _; omega, fun z hz => ?_, by rw [List.append_assoc]; exact e1, e2⟩
      · have := wk'.snoc hl' mm
        rw [List.append_assoc, List.append_assoc, List.append_assoc] at this
        exact this
      · rw [← List.append_assoc, ← List.append_assoc]
        rcases tk z hz with y | y
        · exact (sv z y).more
        · subst y
          refine ⟨(made ++ made').length, by rw [List.length_append]; omega, .inr ⟨m, ?_, by rw [Int.toNat_natCast]; exact tkm⟩⟩
          rw [List.getElem?_append_right (Nat.le_refl _), Nat.sub_self]; rfl
  · rintro σ H' ⟨u', p', made', ps', p5, p6, rfl, h', wk', hl', ml, sv, e1, e2⟩
    rw [List.length_map] at ml sv e1 e2
    rw [List.drop_length] at e1 e2
    rw [List.take_length] at sv
    have e1' : made' = (rnd rs ds p).1 := by rw [← e1]; exact (List.append_nil _).symm
    exact q H' u' p' made' ps' p5 p6 h' wk' hl' ml sv e1' e2
theorem FrAt.put {g : Ga} {B H : Hp} {md bg : Addr} {u : V} {made : List Move} {p q : List Int} {n : Nat} {bs : List (List Int × Nat)} (nb : B bg = none) (h : FrAt g B H md bg u made p bs) : FrAt g B (upd H bg (.dT (encB (bs ++ [(q, n)])))) md bg u made p (bs ++ [(q, n)]) := by
  obtain ⟨vs, a, b⟩ := h.mv
  have ne : md ≠ bg := ne_of a h.dc (fun z => by cases z)
  exact ⟨Same.own h.sm nb, ⟨vs, by rw [upd_ne ne]; exact a, paired_mono (fun _ _ z => z.updO h.dc dT_nt) b⟩, upd_same, h.st.updO h.dc dT_nt.1⟩
theorem goR_some {rs : List Rw} {ds p : List Int} {n b : Nat} {made : List Move} {bs : List (List Int × Nat)} (e : bs.lookup p = some b) : goR rs ds (n + 1) p made bs = (made, b) := by
  show (match bs.lookup p with | some b => _ | none => _) = _
  rw [e]
theorem goR_none {rs : List Rw} {ds p : List Int} {n : Nat} {made : List Move} {bs : List (List Int × Nat)} (e : bs.lookup p = none) : goR rs ds (n + 1) p made bs = goR rs ds n (rnd rs ds p).2 (made ++ (rnd rs ds p).1) (bs ++ [(p, made.length)]) := by
  show (match bs.lookup p with | some b => _ | none => _) = _
  rw [e]
theorem pure_fair_run {g : Ga} {vs : List V} {H : Hp} {Q : VK} {E : XK} {N : List Str} (T : SysC g) (hN : N.length = 8) (h : sp_fair_run g vs H Q E) : t_fair_run g E (endsQ Q) (L2.start N vs) H := by
  obtain ⟨x, rt, rs, ds, us, ms, ps, p0, rfl, hx, sm, dok, d4, hu, hm, wk, few, c500, hl0, q⟩ := h
  have e0 : L2.start N [.ref x, .ref rt] = [some (.ref x), some (.ref rt), none, none, none, none, none, none] := by unfold L2.start; rw [hN]; rfl
  rw [e0]
  refine ⟨_, rfl, _, rfl, x, rt, rs, ds, us, ms, ps, p0, rfl, hx, sm, hu, hm, wk, by omega, hl0, fun u0 B sB hu0 => ?_⟩
  refine ⟨by show 0 ≤ sizeLine; decide, fun md hmd => fun bg hbg => ?_⟩
  have s1 : Same B (upd B md (.lst [])) := Same.new hmd
  have nbg : B bg = none := s1.free hbg
  have s2 : Same (upd B md (.lst [])) (upd (upd B md (.lst [])) bg (.dT [])) := Same.new hbg
  have fr0 : FrAt g B (upd (upd B md (.lst [])) bg (.dT [])) md bg u0 [] p0 [] := ⟨s1.trans s2, ⟨[], s2 _ _ upd_same, .nil⟩, upd_same, hu0.mono (s1.trans s2)⟩
  generalize upd (upd B md (.lst [])) bg (.dT []) = H0 at fr0
  show t_fr_1 g E (endsQ Q) [some (.ref x), some (.ref rt), some u0, some (.ref md), some (.ref bg), none, none, none] H0
  have bs_len : ∀ {ps' : List (List Int)} {made : List Move} {bs : List (List Int × Nat)}, WalkOk rs ps' (ms ++ made) → BsOk rs ds ms.length ps' made bs → bs.length ≤ cartN rs := fun wk' bo => by
    have := stands_le (rs := rs) bo.nd fun r hr => by
      obtain ⟨⟨r', b⟩, hb, rfl⟩ := List.mem_map.mp hr
      exact wk'.st _ (List.mem_of_getElem? (bo.ix _ _ hb).2)
    rwa [List.length_map] at this
  have mul_le : ∀ {made : List Move} {bs : List (List Int × Nat)}, made.length ≤ ds.length * bs.length → bs.length ≤ cartN rs → made.length ≤ ds.length * cartN rs ∧ made.length ≤ 2000 := fun {made} {bs} a b => by
    have h1 : ds.length * bs.length ≤ ds.length * cartN rs := Nat.mul_le_mul_left _ b
    have h2 : ds.length * cartN rs ≤ 4 * 500 := Nat.mul_le_mul d4 c500
    exact ⟨by omega, by omega⟩
  refine while_ix (fun m σ H' => ∃ (u : V) (p : List Int) (made : List Move) (ps' : List (List Int)) (bs : List (List Int × Nat)) (p5 p6 : Option V), σ = [some (.ref x), some (.ref rt), some u, some (.ref md), some (.ref bg), p5, p6, none] ∧ FrAt g B H' md bg u made p bs ∧ WalkOk rs ps' (ms ++ made) ∧ ps'.getLast? = some p ∧ BsOk rs ds ms.length ps' made bs ∧ m + bs.length = cartN rs + 1 ∧ goR rs ds m p made bs = frun rs ds p0) (m0 := cartN rs + 1)
    ⟨u0, p0, [], ps, [], none, none, rfl, fr0, by rw [List.append_nil]; exact wk, hl0, ⟨List.nodup_nil, (fun q b h => by cases h), (fun q b h => by cases h), Nat.zero_le _⟩, rfl, rfl⟩ ?_ ?_
  · rintro m σ H' ⟨u, p, made, ps', bs, p5, p6, rfl, fr, wk', hl, bo, em, eg⟩
    have bl := bs_len wk' bo
    obtain ⟨ml, m2⟩ := mul_le bo.ln bl
    obtain ⟨n, rfl⟩ : ∃ n, m = n + 1 := ⟨m - 1, by omega⟩
    obtain ⟨ub, eu, hub⟩ := fr.st
    subst eu
    have hub' : H' ub = some (.tup ((keyI p).map kV)) := by rw [keyI_V]; exact hub
    refine ⟨_, rfl, _, rfl, bg, _, rfl, DGet.t fr.dc hub', _, rfl, ?_⟩
    rw [val_enc]
    have wl := wk'.len
    rw [List.length_append] at wl
    cases eb : bs.lookup p with
    | none =>
      refine iteT ?_
      show t_fr_2 g E _ [some (.ref x), some (.ref rt), some (.ref ub), some (.ref md), some (.ref bg), p5, p6, none] H'
      obtain ⟨vs, hmd', hvs⟩ := fr.mv
      have lv := hvs.length
      have ep : putK (encB bs) (keyI p) (.int (made.length : Int)) = encB (bs ++ [(p, made.length)]) := by
        rw [putK_new _ (by rw [val_enc, eb]; rfl)]
        unfold encB
        rw [List.map_append]; rfl
      have fr2 := fr.put (q := p) (n := made.length) nbg
      refine ⟨_, rfl, md, vs, rfl, .inl (SqL.of hmd'), _, rfl, _, rfl, bg, upd H' bg (.dT (encB (bs ++ [(p, made.length)]))), rfl, .inr ⟨_, keyI p, ub, fr.dc, rfl, hub', by unfold encB; rw [List.length_map]; exact big_line (by omega), by rw [lv, ep]⟩, ?_⟩
      generalize upd H' bg (.dT (encB (bs ++ [(p, made.length)]))) = H2 at fr2
      show t_fr_3 g E _ [some (.ref x), some (.ref rt), some (.ref ub), some (.ref md), some (.ref bg), p5, p6, none] H2
      refine pure_fr_3 T (hx.mono sB) sm dok d4 hmd wk' hl (by omega) fr2 fun H3 u3 p3 made3 ps3 p5 p6 fr3 wk3 hl3 ln3 sv3 em3 ep3 => ?_
      have atp : ps'[ms.length + made.length]? = some p := by
        rw [List.getLast?_eq_getElem?, wl] at hl
        exact hl
      refine ⟨n, by omega, u3, p3, made ++ made3, ps' ++ ps3, bs ++ [(p, made.length)], p5, p6, rfl, fr3, wk3, hl3, bo.round eb atp sv3 ln3, by rw [List.length_append]; show n + (bs.length + 1) = _; omega, ?_⟩
      rw [← eg, goR_none eb, em3, ep3]
    | some b =>
      refine iteF ?_
      show t_fr_8 g E (endsQ Q) [some (.ref x), some (.ref rt), some (.ref ub), some (.ref md), some (.ref bg), p5, p6, none] H'
      refine ⟨_, rfl, _, rfl, bg, .int (b : Int), rfl, .inr ⟨_, keyI p, ub, .inl fr.dc, rfl, hub', by rw [val_enc, eb]; rfl⟩, ?_⟩
      show t_fr_9 g E (endsQ Q) [some (.ref x), some (.ref rt), some (.ref ub), some (.ref md), some (.ref bg), p5, p6, some (.int (b : Int))] H'
      obtain ⟨vs, hmd', hvs⟩ := fr.mv
      have lv := hvs.length
      have lu := hm.length
      have bm := (bo.ix p b (lookup_mem eb)).1
      have sH := sB.trans fr.sm
      refine ⟨_, rfl, _, rfl, _, rfl, _, rfl, md, vs, rfl, SqL.of hmd', fun l1 hl1 => ?_⟩
      rw [cutV_to (by omega)]
      have s3 : Same H' (upd H' l1 (.lst (vs.take b))) := Same.new hl1
      refine ⟨l1, _, rfl, .inl ⟨SqL.of upd_same, fun l2 hl2 => ?_⟩⟩
      have s4 : Same (upd H' l1 (.lst (vs.take b))) (upd (upd H' l1 (.lst (vs.take b))) l2 (.tup (vs.take b))) := Same.new hl2
      have s34 := s3.trans s4
      have h2 : SqT g.K (upd (upd H' l1 (.lst (vs.take b))) l2 (.tup (vs.take b))) l2 (vs.take b) := SqT.of upd_same
      generalize upd (upd H' l1 (.lst (vs.take b))) l2 (.tup (vs.take b)) = H4 at s4 s34 h2
      refine cat_tup (Same.tup (sH.trans s34) hu) h2 (by rw [List.length_take]; omega) fun st H5 s5 hst => ?_
      have s35 := s34.trans s5
      refine ⟨_, rfl, _, rfl, _, rfl, md, vs, rfl, SqL.of (s35 _ _ hmd'), fun l3 hl3 => ?_⟩
      rw [cutV_from (by omega)]
      have s6 : Same H5 (upd H5 l3 (.lst (vs.drop b))) := Same.new hl3
      refine ⟨l3, _, rfl, .inl ⟨SqL.of upd_same, fun lo hlo => ?_⟩⟩
      have s7 : Same (upd H5 l3 (.lst (vs.drop b))) (upd (upd H5 l3 (.lst (vs.drop b))) lo (.tup (vs.drop b))) := Same.new hlo
      have s67 := s6.trans s7
      have hlo7 : SqT g.K (upd (upd H5 l3 (.lst (vs.drop b))) lo (.tup (vs.drop b))) lo (vs.drop b) := SqT.of upd_same
      generalize upd (upd H5 l3 (.lst (vs.drop b))) lo (.tup (vs.drop b)) = H7 at s7 s67 hlo7
      refine ⟨by show 2 ≤ sizeLine; decide, fun t ht => ?_⟩
      have s8 : Same H7 (upd H7 t (.tup [.ref st, .ref lo])) := Same.new ht
      have s38 := s35.trans (s67.trans s8)
      refine q t st lo (us ++ vs.take b) (vs.drop b) made b ps' _ (sH.trans s38) ?_ upd_same (Same.tup (s67.trans s8) hst) (Same.tup s8 hlo7) (paired_app (paired_mono (fun _ _ z => z.mono (sH.trans s38)) hm) (paired_mono (fun _ _ z => z.mono s38) (paired_take b hvs))) (paired_mono (fun _ _ z => z.mono s38) (paired_drop b hvs)) wk' bm ml (bo.fair eb (by omega) hl)
      rw [← eg, goR_some eb]
  · rintro σ H' Q1 Q2 hq ⟨v, hv, w, hw, a, o, e, d, k, ek, q⟩
    exact ⟨v, hv, w, hw, a, o, e, d, k, ek, hq _ _ q⟩
end Sd
namespace Sd
open PySem PySem.Spec PyProof.Rows L2
/-! ### rounds over the steps of a row: what is reached -/
theorem set2_a {σ : L2.St} {a b : Nat} {p q v : Option V} (ab : a ≠ b) : ((σ.set a p).set b q).set a v = (σ.set a v).set b q := by
  rw [List.set_comm q v (Ne.symm ab), List.set_set]
theorem set2_b {σ : L2.St} {a b : Nat} {p q v : Option V} : ((σ.set a p).set b q).set b v = (σ.set a p).set b v := by rw [List.set_set]
theorem set2_out {σ : L2.St} {a b i : Nat} {p q : Option V} (ha : i ≠ a) (hb : i ≠ b) : ((σ.set a p).set b q)[i]? = σ[i]? := by
  rw [List.getElem?_set_ne (Ne.symm hb), List.getElem?_set_ne (Ne.symm ha)]
theorem set2_in {σ : L2.St} {a b : Nat} {p q : Option V} (hb : b < σ.length) : ((σ.set a p).set b q)[b]? = some q := by
  rw [List.getElem?_set_self]; rw [List.length_set]; exact hb
theorem set2_self {σ : L2.St} {a b : Nat} (ha : a < σ.length) (hb : b < σ.length) : ∃ p q, σ = (σ.set a p).set b q := ⟨σ[a], σ[b], by rw [List.set_getElem_self, List.set_getElem_self]⟩
theorem reach_loop {g : Ga} {D : Ends} {B H : Hp} {σ : L2.St} {te : TE} {n f c1 c2 : Nat} {l a : Addr} {s0 : Int} {xs : List V} {L : List Step} (n5 : n ≤ 1000) (hf : σ[f]? = some (some (.ref l))) (f1 : f ≠ c1) (f2 : f ≠ c2) (c12 : c1 ≠ c2) (l1 : c1 < σ.length) (l2 : c2 < σ.length) (sB : Same B H) (nl : B l = none) (hl : H l = some (.lst [.int s0]))
    (hte : ∀ p q (H' : Hp), Same B H' → ∀ Q : VK, Q (.ref a) H' → te ((σ.set c1 p).set c2 q) H' Q) (hs : SqL g.K B a xs) (hL : StepsAt g.K B xs L) (few : L.length ≤ 100) (r9 : (reachL L s0).length ≤ n)
    (qq : ∀ p q ns H', Same B H' → H' l = some (.lst (ns.map V.int)) → Fnd L s0 ns → Closed L ns → D.nx ((σ.set c1 p).set c2 q) H') :
    tFor (iRng1 (tCons (tC (.int (n : Int))) tNil)) (gName c1) (tFor (iList g.K te) (gName c2) (tIfS (tAnd (tTest (tOp (rIn g.K false) (tOp (rIxT g.K) (tVar c2) (tC (.int 0))) (tVar f))) (tTest (tOp (rIn g.K true) (tOp (rIxT g.K) (tVar c2) (tC (.int 2))) (tVar f)))) (tDrop (tBM g.K "list" rApp (tVar f) (tCons (tOp (rIxT g.K) (tVar c2) (tC (.int 2))) tNil))) tNext)) D σ H := by
  have lx := hL.length
  have vf : ∀ p q, ((σ.set c1 p).set c2 q)[f]? = some (some (.ref l)) := fun p q => by rw [set2_out f1 f2]; exact hf
  have vc : ∀ p q, ((σ.set c1 p).set c2 q)[c2]? = some q := fun p q => set2_in l2
  refine ⟨_, rfl, by omega, by omega, for_range (n := n) (fun i σ' H' => ∃ (ns : List Int) (p q : Option V), σ' = (σ.set c1 p).set c2 q ∧ Same B H' ∧ H' l = some (.lst (ns.map V.int)) ∧ Fnd L s0 ns ∧ (Closed L ns ∨ i + 1 ≤ ns.length)) ?_ ?_ ?_⟩
  · obtain ⟨p, q, e⟩ := set2_self l1 l2
    exact ⟨[s0], p, q, e, sB, hl, ⟨by simp, by simp, fun x hx => by rw [List.mem_singleton.mp hx]; exact .base⟩, .inr (Nat.le_refl _)⟩
  · rintro i σ' H1 hi ⟨ns, p, q', rfl, sm, hl1, fd, alt⟩
    show tFor (iList g.K te) (gName c2) _ _ (((σ.set c1 p).set c2 q').set c1 (some (V.int (0 + (i : Int))))) H1
    rw [set2_a c12]
    refine hte _ _ H1 sm _ ⟨a, rfl, ⟨_, sm.seq hs⟩, for_list (K := g.K) (a := a) (xs := xs) (fun k σ' H' => ∃ (ms : List Int) (p q : Option V), σ' = (σ.set c1 p).set c2 q ∧ Same B H' ∧ H' l = some (.lst ((ns ++ ms).map V.int)) ∧ Fnd L s0 (ns ++ ms) ∧ (ms = [] → ∀ s ∈ L.take k, s.1 ∈ ns → s.2.2 ∈ ns) ∧ (Closed L ns → ms = []))
      ⟨[], _, q', rfl, sm, by rw [List.append_nil]; exact hl1, by rw [List.append_nil]; exact fd, (fun _ s hs => by simp at hs), fun _ => rfl⟩ (fun k σ H' _ ⟨_, _, _, _, sm', _⟩ => sm'.seq hs) ?_ ?_⟩
    · rintro k v σ' H' hv ⟨ms, p', q'', rfl, sm', hl', fd', cl', cz⟩
      obtain ⟨s, hs1, b, rfl, st⟩ := paired_get hL hv
      have sL : s ∈ L := List.mem_of_getElem? hs1
      have st' := Same.tup sm' st
      show tIfS (tAnd (tTest (tOp (rIn g.K false) (tOp (rIxT g.K) (tVar c2) (tC (.int 0))) (tVar f))) (tTest (tOp (rIn g.K true) (tOp (rIxT g.K) (tVar c2) (tC (.int 2))) (tVar f)))) (tDrop (tBM g.K "list" rApp (tVar f) (tCons (tOp (rIxT g.K) (tVar c2) (tC (.int 2))) tNil))) tNext _ (((σ.set c1 p').set c2 q'').set c2 (some (V.ref b))) H'
      rw [set2_b]
      refine ⟨_, vc _ _, b, _, _, .int s.1, rfl, rfl, st', rfl, _, vf _ _, l, _, rfl, .inl (SqL.of hl'), rfl, int_flat _, _, rfl, ?_⟩
      rw [if_neg Bool.false_ne_true, inV_int]
      have take : ∀ t ∈ L.take (k + 1), t ∈ L.take k ∨ t = s := fun t ht => by
        rw [List.take_add_one, hs1, Option.toList_some] at ht
        rcases List.mem_append.mp ht with w | w
        · exact .inl w
        · exact .inr (List.mem_singleton.mp w)
      by_cases h1 : s.1 ∈ ns ++ ms
      · rw [decide_eq_true h1]
        refine iteT ⟨_, vc _ _, b, _, _, .int s.2.2, rfl, rfl, st', rfl, _, vf _ _, l, _, rfl, .inl (SqL.of hl'), rfl, int_flat _, _, rfl, ?_⟩
        rw [if_pos rfl, inV_int]
        by_cases h2 : s.2.2 ∈ ns ++ ms
        · rw [decide_eq_true h2]
          refine iteF ⟨ms, _, _, rfl, sm', hl', fd', fun e t ht hm => ?_, cz⟩
          rcases take t ht with w | w
          · exact cl' e t w hm
          · rw [w]; rw [e, List.append_nil] at h2; exact h2
        · rw [decide_eq_false h2]
          refine iteT ⟨_, vf _ _, .inl ⟨rfl, _, SqL.of hl'⟩, _, vc _ _, b, _, _, .int s.2.2, rfl, rfl, st', rfl, l, _, _, rfl, rfl, hl', ?_, ?_⟩
          · rw [List.length_map]
            have := fd'.len
            exact small1000 (by omega)
          · have fd2 : Fnd L s0 ((ns ++ ms) ++ [s.2.2]) := fd'.add (x := s.1) (w := s.2.1) h1 sL h2
            refine ⟨ms ++ [s.2.2], _, _, rfl, Same.own sm' nl, ?_, by rw [← List.append_assoc]; exact fd2, fun e => by simp at e, fun c => ?_⟩
            · rw [upd_same, ← List.append_assoc, List.map_append (l₁ := ns ++ ms)]; rfl
            · rw [cz c, List.append_nil] at h1 h2
              exact absurd (c s sL h1) h2
      · rw [decide_eq_false h1]
        refine iteF (iteF ⟨ms, _, _, rfl, sm', hl', fd', fun e t ht hm => ?_, cz⟩)
        rcases take t ht with w | w
        · exact cl' e t w hm
        · rw [w] at hm; rw [e, List.append_nil] at h1; exact absurd hm h1
    · rintro σ' H' ⟨ms, p', q'', rfl, sm', hl', fd', cl', cz⟩
      rw [lx, List.take_length] at cl'
      refine ⟨ns ++ ms, _, _, rfl, sm', hl', fd', ?_⟩
      by_cases e : ms = []
      · subst e
        rw [List.append_nil]
        exact .inl (cl' rfl)
      · right
        rcases alt with c | c
        · exact absurd (cz c) e
        · have := List.length_pos_iff.mpr e
          rw [List.length_append]; omega
  · rintro σ' H1 ⟨ns, p, q', rfl, sm, hl1, fd, alt⟩
    have cl : Closed L ns := by
      rcases alt with c | c
      · exact c
      · have := fd.le; omega
    exact qq p q' ns H1 sm hl1 fd cl
theorem Fnd.whole {L : List Step} {s0 : Int} {ns : List Int} (h : Fnd L s0 ns) (c : Closed L ns) : ns.length = (reachL L s0).length := by
  refine Nat.le_antisymm h.le (nodup_leG _ _ ?_ fun x hx => ?_)
  · exact ascI_nodup (asc_reachL L s0)
  · exact (h.all c x).mpr (mem_reachL.mp hx)
end Sd
namespace Sd
open PySem PySem.Spec PyProof.Rows L2
theorem any_no {K : PySem.W.Frag} {t : String} : ∀ (ns : List String), (∀ n ∈ ns, kitB t n = some false) → PySem.W.kitAny K (.type t) (ns.map Value.type) = some false
  | [], _ => rfl
  | n :: ns, h => by
    rw [List.map_cons]
    unfold PySem.W.kitAny
    rw [kb (h n List.mem_cons_self)]
    exact any_no ns fun z hz => h z (List.mem_cons_of_mem _ hz)
/-! ### _law_is_move -/
def sp_law_is_move (g : Ga) : Sp := fun vs H Q _ => ∃ (rl : Addr) (u v : V) (rs : List Rw) (sts : List Int) (m : Move), vs = [.ref rl, u, v] ∧ RowsAt g H rl rs ∧ StAt g.K H u sts ∧ MoveAt g.K H v m ∧ sts.length = rs.length ∧ SmallR rs ∧ (∀ r ∈ rs, r.2.length ≤ 24) ∧ m ∈ movesOf rs sts ∧ ∀ H', Same H H' → Q (.bl true) H'
def t_im_2 (g : Ga) : TS := (tIfS (tOr (tB (tCB (rIsiT g.K) (tCons (tVar 4) (tCons (tTup (tCons (tC (.ty "bool")) (tCons (tC (.ty "str")) (tCons (tC (.ty "list")) (tCons (tC (.ty "tuple")) tNil))))) tNil)))) (tTest (tOp (rNotInD g.K) (tVar 4) (tCall (sp_law_numbers g) [] E0 (tCons (tOp (rIxL g.K) (tVar 0) (tVar 3)) (tCons (tOp (rIxT g.K) (tVar 1) (tVar 3)) (tCons (tOp (rIxT g.K) (tVar 2) (tC (.int 0))) tNil))))))) (tRet (tC (.bl false))) tNext)
def t_im_1 (g : Ga) : TS := (tSeq (tFor (iRng1 (tCons (tCB (rLenS g.K) (tCons (tVar 0) tNil)) tNil)) (gName 3) (tSeq (tAsg (tOp (rIxT g.K) (tOp (rIxT g.K) (tVar 2) (tC (.int 1))) (tVar 3)) (gName 4)) (t_im_2 g))) (tRet (tC (.bl true))))
def t_law_is_move (g : Ga) : TS := (tSeq (tIfS (tOr (tNot (tB (tCB (rIsi g.K) (tCons (tVar 2) (tCons (tC (.ty "tuple")) tNil))))) (tOr (tTest (tOp rNe (tCB (rLenS g.K) (tCons (tVar 2) tNil)) (tC (.int 2)))) (tNot (tB (tCB (rIsi g.K) (tCons (tOp (rIxT g.K) (tVar 2) (tC (.int 0))) (tCons (tC (.ty "str")) tNil))))))) (tRet (tC (.bl false))) tNext) (tSeq (tIfS (tOr (tNot (tB (tCB (rIsi g.K) (tCons (tOp (rIxT g.K) (tVar 2) (tC (.int 1))) (tCons (tC (.ty "tuple")) tNil))))) (tOr (tTest (tOp rNe (tCB (rLenS g.K) (tCons (tOp (rIxT g.K) (tVar 2) (tC (.int 1))) tNil)) (tCB (rLenS g.K) (tCons (tVar 0) tNil)))) (tTest (tOp (rIn g.K true) (tOp (rIxT g.K) (tVar 2) (tC (.int 0))) (tCall (sp_law_words g) [] E0 (tCons (tVar 0) tNil)))))) (tRet (tC (.bl false))) tNext) (t_im_1 g)))
theorem pure_im_2 {g : Ga} {D : Ends} {H : Hp} {rl a ma mb : Addr} {sts : List Int} {m : Move} {i : Nat} {r : Rw} {st : Int} {o : Option Int} {y : V} {xs : List V} (hx : H rl = some (.lst xs)) (hy : xs[i]? = some y) (hrow : RowAt g.K H y r) (r24 : r.2.length ≤ 24) (ha : SqT g.K H a (sts.map V.int)) (hst : sts[i]? = some st) (hma : SqT g.K H ma [.str m.1, .ref mb]) (mo : o ∈ numbersOf r.2 st m.1)
    (q : ∀ H', Same H H' → D.nx [some (.ref rl), some (.ref a), some (.ref ma), some (.int (0 + (i : Int))), some (optV o)] H') :
    t_im_2 g D [some (.ref rl), some (.ref a), some (.ref ma), some (.int (0 + (i : Int))), some (optV o)] H := by
  have ez : (0 : Int) + (i : Int) = ((i : Nat) : Int) := Int.zero_add _
  have axs : atI (sts.map V.int) (0 + (i : Int)) = some (.int st) := by rw [ez]; exact atI_nat (by rw [List.getElem?_map, hst]; rfl)
  have axx : atI xs (0 + (i : Int)) = some y := by rw [ez]; exact atI_nat hy
  refine ⟨_, rfl, by show 4 ≤ sizeLine; decide, fun tp htp => ?_⟩
  have s1 : Same H (upd H tp (.tup [.ty "bool", .ty "str", .ty "list", .ty "tuple"])) := Same.new htp
  have ty : ∃ t : String, TyX g.K (upd H tp (.tup [.ty "bool", .ty "str", .ty "list", .ty "tuple"])) (optV o) (.type t) ∧ ∀ n ∈ ["bool", "str", "list", "tuple"], kitB t n = some false := by
    cases o with
    | none => exact ⟨"NoneType", .base .non, by decide +kernel⟩
    | some z => exact ⟨"int", .base (.int _), by decide +kernel⟩
  obtain ⟨t, ty1, ty2⟩ := ty
  refine ⟨_, tp, _, _, _, false, rfl, upd_same, .cons (.ty _) (.cons (.ty _) (.cons (.ty _) (.cons (.ty _) .nil))), ty1, any_no _ ty2, false, rfl, iteF ?_⟩
  refine t_test ⟨_, rfl, _, rfl, _, rfl, rl, xs, _, y, rfl, rfl, SqL.of (s1 _ _ hx), axx, _, rfl, _, rfl, a, _, _, _, rfl, rfl, Same.tup s1 ha, axs, _, rfl, ma, _, _, .str m.1, rfl, rfl, Same.tup s1 hma, rfl, y, st, m.1, r, rfl, hrow.mono s1, by omega, fun nl H3 s3 nnl hnl => ?_⟩
  refine ⟨optD o, (numbersOf r.2 st m.1).map optD, dp_opt o, .lst (SqL.of hnl) (dp_opts _), opt_shaped o, opts_shaped _, _, rfl, ?_⟩
  rw [any_opt mo]
  exact iteF (q H3 (s1.trans s3))
theorem pure_law_is_move {g : Ga} {vs : List V} {H : Hp} {Q : VK} {E : XK} {N : List Str} (hN : N.length = 5) (h : sp_law_is_move g vs H Q E) : t_law_is_move g (endsQ Q) (L2.start N vs) H := by
  obtain ⟨rl, u, v, rs, sts, m, rfl, hr, ⟨a, rfl, ha0⟩, ⟨ma, mb, rfl, hma, hmb⟩, sl, sm, r24, mm, q⟩ := h
  have ha : SqT g.K H a (sts.map V.int) := SqT.of ha0
  have e0 : L2.start N [.ref rl, .ref a, .ref ma] = [some (.ref rl), some (.ref a), some (.ref ma), none, none] := by unfold L2.start; rw [hN]; rfl
  rw [e0]
  obtain ⟨xs, hx, hp⟩ := hr.ex
  have lx := hp.length
  have n4 := sm.n4
  obtain ⟨ml, val⟩ := moves_nums mm sl
  have mw := moves_word mm
  refine ⟨_, rfl, _, .ty "tuple", _, _, true, rfl, .ty _, st_ty hma, kb (by decide +kernel), true, rfl, iteF ?_⟩
  refine ⟨_, rfl, ma, _, rfl, .inr hma, rfl, _, rfl, iteF ?_⟩
  refine ⟨_, rfl, ma, _, _, .str m.1, rfl, rfl, hma, rfl, _, .ty "str", _, _, true, rfl, .ty _, .base (.str _), kb (by decide +kernel), true, rfl, iteF ?_⟩
  refine ⟨_, rfl, ma, _, _, .ref mb, rfl, rfl, hma, rfl, _, .ty "tuple", _, _, true, rfl, .ty _, st_ty hmb, kb (by decide +kernel), true, rfl, iteF ?_⟩
  refine ⟨_, rfl, ma, _, _, .ref mb, rfl, rfl, hma, rfl, mb, _, rfl, .inr hmb, _, rfl, rl, xs, rfl, .inl (SqL.of hx), rfl, _, rfl, ?_⟩
  rw [decide_eq_true (show V.int ((m.2.map optV).length : Int) = V.int (xs.length : Int) by rw [List.length_map, ml, lx])]
  refine iteF ?_
  refine ⟨_, rfl, ma, _, _, .str m.1, rfl, rfl, hma, rfl, _, rfl, rl, rs, rfl, hr, by omega, r24, fun D H1 s1 nD hD => ⟨D, _, rfl, .inl (SqL.of hD), rfl, str_flat _, _, rfl, ?_⟩⟩
  rw [if_pos rfl, inV_str, decide_eq_true mw]
  refine iteF ?_
  show t_im_1 g (endsQ Q) [some (.ref rl), some (.ref a), some (.ref ma), none, none] H1
  refine ⟨_, rfl, rl, xs, rfl, .inl (SqL.of (s1 _ _ hx)), _, rfl, by omega, by omega, for_range (n := xs.length) (fun i σ H' => ∃ p3 p4 : Option V, σ = [some (.ref rl), some (.ref a), some (.ref ma), p3, p4] ∧ Same H H') ⟨none, none, rfl, s1⟩ ?_ ?_⟩
  · rintro i σ H' hi ⟨p3, p4, rfl, s2⟩
    have hy : xs[i]? = some xs[i] := List.getElem?_eq_getElem hi
    obtain ⟨r, hr1, row⟩ := paired_get hp hy
    obtain ⟨st, hst⟩ : ∃ st, sts[i]? = some st := ⟨sts[i]'(by omega), List.getElem?_eq_getElem _⟩
    obtain ⟨o, ho, mo⟩ := val i r st hr1 hst
    have axm : atI (m.2.map optV) (0 + (i : Int)) = some (optV o) := by rw [Int.zero_add]; exact atI_nat (by rw [List.getElem?_map, ho]; rfl)
    refine ⟨_, rfl, ma, _, _, .ref mb, rfl, rfl, Same.tup s2 hma, rfl, _, rfl, mb, _, _, optV o, rfl, rfl, Same.tup s2 hmb, axm, ?_⟩
    show t_im_2 g _ [some (.ref rl), some (.ref a), some (.ref ma), some (.int (0 + (i : Int))), some (optV o)] H'
    exact pure_im_2 (s2 _ _ hx) hy (row.mono s2) (r24 r (List.mem_of_getElem? hr1)) (Same.tup s2 ha) hst (Same.tup s2 hma) mo fun H3 s3 => ⟨_, _, rfl, s2.trans s3⟩
  · rintro σ H' ⟨p3, p4, rfl, s2⟩
    exact q H' s2
/-! ### _law_wrong_at: nothing is wrong -/
def sp_law_wrong_at (g : Ga) : Sp := fun vs H Q _ => ∃ (rl rt : Addr) (rs : List Rw) (us : List V) (ms : List Move) (ps : List (List Int)), vs = [.ref rl, .ref rt] ∧ RowsAt g H rl rs ∧ SmallR rs ∧ (∀ r ∈ rs, r.2.length ≤ 24) ∧ SqT g.K H rt us ∧ Paired (MoveAt g.K H) us ms ∧ WalkOk rs ps ms ∧ ms.length ≤ 5000 ∧ ∀ H', Same H H' → Q (.int (ms.length : Int)) H'
def t_wa_2 (g : Ga) : TS := (tAsg (tCall (sp_law_behind g) [] E0 (tCons (tVar 0) (tCons (tVar 2) (tCons (tOp (rIxT g.K) (tVar 1) (tVar 3)) tNil)))) (gName 2))
def t_wa_1 (g : Ga) : TS := (tSeq (tIfS (tNot (tB (tCall (sp_law_is_move g) [] E0 (tCons (tVar 0) (tCons (tVar 2) (tCons (tOp (rIxT g.K) (tVar 1) (tVar 3)) tNil)))))) (tRet (tVar 3)) tNext) (t_wa_2 g))
def t_law_wrong_at (g : Ga) : TS := (tSeq (tAsg (tCall (sp_law_start g) [] E0 (tCons (tVar 0) tNil)) (gName 2)) (tSeq (tFor (iRng1 (tCons (tCB (rLenS g.K) (tCons (tVar 1) tNil)) tNil)) (gName 3) (t_wa_1 g)) (tRet (tCB (rLenS g.K) (tCons (tVar 1) tNil)))))
theorem pure_law_wrong_at {g : Ga} {vs : List V} {H : Hp} {Q : VK} {E : XK} {N : List Str} (hN : N.length = 4) (h : sp_law_wrong_at g vs H Q E) : t_law_wrong_at g (endsQ Q) (L2.start N vs) H := by
  obtain ⟨rl, rt, rs, us, ms, ps, rfl, hr, sm, r24, hu, hm, wk, few, q⟩ := h
  have e0 : L2.start N [.ref rl, .ref rt] = [some (.ref rl), some (.ref rt), none, none] := by unfold L2.start; rw [hN]; rfl
  rw [e0]
  have n4 := sm.n4
  have lu := hm.length
  have wl := wk.len
  refine ⟨_, rfl, rl, rs, rfl, hr, by omega, fun u0 H1 s1 hu0 => ?_⟩
  refine ⟨_, rfl, rt, us, rfl, .inr (Same.tup s1 hu), _, rfl, by omega, by omega, for_range (n := us.length) (fun i σ H' => ∃ (u : V) (p : List Int) (p3 : Option V), σ = [some (.ref rl), some (.ref rt), some u, p3] ∧ Same H H' ∧ StAt g.K H' u p ∧ ps[i]? = some p) ⟨u0, _, none, rfl, s1, hu0, wk.hd⟩ ?_ ?_⟩
  · rintro i σ H' hi ⟨u, p, p3, rfl, s2, hu', hp⟩
    obtain ⟨m, hm1, mv⟩ := paired_get hm (List.getElem?_eq_getElem hi)
    have sp := wk.st p (List.mem_of_getElem? hp)
    have mm := wk.mv i m p hm1 hp
    have nx := wk.nx i m p hm1 hp
    obtain ⟨vl, val⟩ := valid_of mm sp.len
    have axu : atI us (0 + (i : Int)) = some us[i] := by rw [Int.zero_add]; exact atI_nat (List.getElem?_eq_getElem hi)
    show t_wa_1 g _ [some (.ref rl), some (.ref rt), some u, some (.int (0 + (i : Int)))] H'
    refine ⟨_, rfl, _, rfl, _, rfl, _, rfl, rt, us, _, us[i], rfl, rfl, Same.tup s2 hu, axu, rl, u, us[i], rs, p, m, rfl, hr.mono s2, hu', mv.mono s2, sp.len, sm, r24, mm, fun H3 s3 => ⟨true, rfl, iteF ?_⟩⟩
    have s03 := s2.trans s3
    show t_wa_2 g _ [some (.ref rl), some (.ref rt), some u, some (.int (0 + (i : Int)))] H3
    refine ⟨_, rfl, _, rfl, _, rfl, _, rfl, rt, us, _, us[i], rfl, rfl, Same.tup s03 hu, axu, rl, u, us[i], rs, p, m, rfl, hr.mono s03, hu'.mono s3, mv.mono s03, sp.len, vl, val, by omega, fun u' H4 s4 hu4 => ?_⟩
    exact ⟨u', _, _, rfl, s03.trans s4, hu4, nx⟩
  · rintro σ H' ⟨u, p, p3, rfl, s2, hu', hp⟩
    have := q H' s2
    rw [← lu] at this
    exact ⟨_, rfl, rt, us, rfl, .inr (Same.tup s2 hu), this⟩
/-! ### _law_room -/
theorem cartN_app : ∀ (rs : List Rw) (r : Rw), cartN (rs ++ [r]) = cartN rs * (reachL r.2 r.1).length
  | [], r => by rw [List.nil_append, cartN_cons, cartN_nil, Nat.mul_one, Nat.one_mul]
  | a :: rs, r => by rw [List.cons_append, cartN_cons, cartN_app rs r, cartN_cons, Nat.mul_assoc]
theorem cartN_le {k : Nat} : ∀ {rs : List Rw}, (∀ r ∈ rs, (reachL r.2 r.1).length ≤ k) → cartN rs ≤ k ^ rs.length
  | [], _ => Nat.le_refl _
  | r :: rs, h => by
    rw [cartN_cons, List.length_cons, Nat.pow_succ, Nat.mul_comm]
    exact Nat.mul_le_mul (cartN_le fun x hx => h x (List.mem_cons_of_mem _ hx)) (h r List.mem_cons_self)
theorem cart27 {rs : List Rw} (h : ∀ r ∈ rs, (reachL r.2 r.1).length ≤ 3) (n : rs.length ≤ 4) : cartN rs ≤ 81 := by
  refine Nat.le_trans (cartN_le h) ?_
  exact Nat.le_trans (Nat.pow_le_pow_right (by decide) n) (by decide)
def sp_law_room (g : Ga) : Sp := fun vs H Q _ => ∃ (rl : Addr) (rs : List Rw), vs = [.ref rl] ∧ RowsAt g H rl rs ∧ rs.length ≤ 4 ∧ (∀ r ∈ rs, r.2.length ≤ 24) ∧ (∀ r ∈ rs, (reachL r.2 r.1).length ≤ 3) ∧ ∀ H', Same H H' → Q (.int (4 * cartN rs : Nat)) H'
def t_rm_3 (g : Ga) : TS := (tAsg (tOp rMul (tVar 1) (tCB (rLenS g.K) (tCons (tVar 3) tNil))) (gName 1))
def t_rm_2 (g : Ga) : TS := (tSeq (tFor (iRng1 (tCons (tC (.int 4)) tNil)) (gName 4) (tFor (iList g.K (tOp (rIxT g.K) (tVar 2) (tC (.int 1)))) (gName 5) (tIfS (tAnd (tTest (tOp (rIn g.K false) (tOp (rIxT g.K) (tVar 5) (tC (.int 0))) (tVar 3))) (tTest (tOp (rIn g.K true) (tOp (rIxT g.K) (tVar 5) (tC (.int 2))) (tVar 3)))) (tDrop (tBM g.K "list" rApp (tVar 3) (tCons (tOp (rIxT g.K) (tVar 5) (tC (.int 2))) tNil))) tNext))) (t_rm_3 g))
def t_rm_1 (g : Ga) : TS := (tSeq (tAsg (tLst (tCons (tOp (rIxT g.K) (tVar 2) (tC (.int 0))) tNil)) (gName 3)) (t_rm_2 g))
def t_law_room (g : Ga) : TS := (tSeq (tAsg (tC (.int 4)) (gName 1)) (tSeq (tFor (iList g.K (tVar 0)) (gName 2) (t_rm_1 g)) (tRet (tVar 1))))
theorem s_for {ti : TI} {G : TG} {b u : TS} {D : Ends} {σ : L2.St} {H : Hp} (h : tFor ti G b { nx := u D, rt := D.rt, bk := D.bk, ct := D.ct } σ H) : tSeq (tFor ti G b) u D σ H := h
theorem pure_law_room {g : Ga} {vs : List V} {H : Hp} {Q : VK} {E : XK} {N : List Str} (hN : N.length = 6) (h : sp_law_room g vs H Q E) : t_law_room g (endsQ Q) (L2.start N vs) H := by
  obtain ⟨rl, rs, rfl, hr, r4, r24, r3, q⟩ := h
  have e0 : L2.start N [.ref rl] = [some (.ref rl), none, none, none, none, none] := by unfold L2.start; rw [hN]; rfl
  rw [e0]
  obtain ⟨xs, hx, hp⟩ := hr.ex
  have lx := hp.length
  refine ⟨_, rfl, rl, rfl, ⟨_, SqL.of hx⟩, for_list (K := g.K) (a := rl) (xs := xs) (fun i σ H' => ∃ p2 p3 p4 p5 : Option V, σ = [some (.ref rl), some (.int (4 * cartN (rs.take i) : Nat)), p2, p3, p4, p5] ∧ Same H H') ⟨none, none, none, none, rfl, Same.refl H⟩ (fun i σ H' _ ⟨_, _, _, _, _, z⟩ => SqL.of (z _ _ hx)) ?_ ?_⟩
  · rintro i v σ H' hv ⟨p2, p3, p4, p5, rfl, s1⟩
    obtain ⟨r, hr1, row⟩ := paired_get hp hv
    have rm := List.mem_of_getElem? hr1
    obtain ⟨a, l, zs, rfl, h1, h2, h3⟩ := (row.mono s1).ex
    have c81 := cart27 (rs := rs.take i) (fun r h => r3 r (List.mem_of_mem_take h)) (by rw [List.length_take]; omega)
    show t_rm_1 g _ [some (.ref rl), some (.int (4 * cartN (rs.take i) : Nat)), some (.ref a), p3, p4, p5] H'
    refine ⟨_, rfl, a, _, _, .int r.1, rfl, rfl, SqT.of h1, rfl, by show 1 ≤ sizeLine; decide, fun fd hfd => ?_⟩
    show t_rm_2 g _ [some (.ref rl), some (.int (4 * cartN (rs.take i) : Nat)), some (.ref a), some (.ref fd), p4, p5] _
    refine s_for (reach_loop (n := 4) (f := 3) (c1 := 4) (c2 := 5) (l := fd) (a := l) (s0 := r.1) (L := r.2) (by decide) rfl (by decide) (by decide) (by decide) (by show 4 < 6; decide) (by show 5 < 6; decide) (Same.new hfd) hfd upd_same (fun p q H2 s2 Q q1 => ⟨_, rfl, a, _, _, .ref l, rfl, rfl, SqT.of (s2 _ _ h1), rfl, q1⟩) (SqL.of h2) h3 (by have := r24 r rm; omega) (by have := r3 r rm; omega) fun p q ns H2 s2 hns fnd cl => ?_)
    show t_rm_3 g _ [some (.ref rl), some (.int (4 * cartN (rs.take i) : Nat)), some (.ref a), some (.ref fd), p, q] H2
    have ln := fnd.whole cl
    have l3 := r3 r rm
    refine ⟨_, rfl, _, rfl, fd, _, rfl, .inl (SqL.of hns), _, _, rfl, rfl, ?_, some (.ref a), some (.ref fd), p, q, ?_, s1.trans s2⟩
    · rw [List.length_map, ln]
      exact .inr ⟨by omega, by omega⟩
    · show [_, some (V.int (((4 * cartN (rs.take i) : Nat) : Int) * ((ns.map V.int).length : Int))), _, _, _, _] = _
      rw [List.take_add_one, hr1, Option.toList_some, cartN_app, List.length_map, ln, ← Int.natCast_mul, Nat.mul_assoc]
  · rintro σ H' ⟨p2, p3, p4, p5, rfl, s1⟩
    have := q H' s1
    rw [lx, List.take_length]
    exact ⟨_, rfl, this⟩
end Sd
namespace Sd
open PySem PySem.Spec PyProof.Rows L2
/-! ### rows of moves as data -/
def runD (ms : List Move) : PyData := .tuple (ms.map moveD)
theorem moves_eqv : ∀ ms : List Move, PyData.eqvAll (ms.map moveD) (ms.map moveD) = true
  | [] => rfl
  | m :: ms => by
    rw [List.map_cons]
    simp only [PyData.eqvAll]
    rw [move_eqv, moves_eqv ms]; rfl
theorem run_eqv (ms : List Move) : PyData.eqv (runD ms) (runD ms) = true := by
  unfold runD PyData.eqv
  exact moves_eqv ms
theorem run_lay {ms : List Move} (h : ∀ m ∈ ms, IsName m.1) : (runD ms).canLay0 = true ∧ (runD ms).depth ≤ 3 := by
  have := moves_lay ms h
  exact ⟨by unfold runD; simp only [PyData.canLay0]; exact this.1, by unfold runD; simp only [PyData.depth]; omega⟩
theorem run_shaped {ms : List Move} (h : ∀ m ∈ ms, IsName m.1) : SeqAt.shaped (runD ms) = true := by
  have := run_lay h
  unfold SeqAt.shaped
  rw [Bool.and_eq_true]
  exact ⟨this.1, decide_eq_true (by omega)⟩
theorem dp_run {K : PySem.W.Frag} {H : Hp} {a : Addr} {us : List V} {ms : List Move} (h : SqT K H a us) (hm : Paired (MoveAt K H) us ms) : Dp K H (.ref a) (runD ms) := .tup h (dp_moves hm)
theorem pair_shaped {a b : List Move} (ha : ∀ m ∈ a, IsName m.1) (hb : ∀ m ∈ b, IsName m.1) : SeqAt.shaped (.tuple [runD a, runD b]) = true := by
  have h1 := run_lay ha
  have h2 := run_lay hb
  unfold SeqAt.shaped
  rw [Bool.and_eq_true]
  refine ⟨by simp only [PyData.canLay0, PyData.canLayAll0, h1.1, h2.1]; rfl, decide_eq_true ?_⟩
  simp only [PyData.depth, PyData.depthAll]
  omega
theorem pair_eqv (a b : List Move) : PyData.eqv (.tuple [runD a, runD b]) (.tuple [runD a, runD b]) = true := by
  simp only [PyData.eqv, PyData.eqvAll, run_eqv]; rfl
theorem WalkOk.names {zs : List Str} {mh mw mt : Nat} {rs : List Rw} {ks : List Int} {ps : List (List Int)} {ms : List Move} (wk : WalkOk rs ps ms) (dr : DrawnRows zs mh mw mt rs ks) : ∀ m ∈ ms, IsName m.1 := fun m hm => by
  obtain ⟨k, hk⟩ := List.mem_iff_getElem?.mp hm
  have kl := (List.getElem?_eq_some_iff.mp hk).1
  have wl := wk.len
  have hp2 : ps[k]? = some (ps[k]'(by omega)) := List.getElem?_eq_getElem _
  exact dr.names (moves_word (wk.mv k m _ hk hp2))
theorem t_cons {te : TE} {ta : TA} {σ : L2.St} {H : Hp} {R : List V → Hp → Prop} (h : te σ H fun x H1 => ta σ H1 fun xs H2 => R (x :: xs) H2) : tCons te ta σ H R := h
def sp_k21_holds (g : Ga) : Sp := fun vs H Q _ => ∃ (rl cl rt : Addr) (zs : List Str) (rs : List Rw) (ks : List Int) (us : List V) (ms : List Move) (ps : List (List Int)), vs = [.ref rl, .ref cl, .ref rt] ∧ RowsAt g H rl rs ∧ H cl = some (.lst (ks.map V.int)) ∧ DrawnRows zs 3 4 3 rs ks ∧ SqT g.K H rt us ∧ Paired (MoveAt g.K H) us ms ∧ WalkOk rs ps ms ∧ ms.length ≤ 1000 ∧ ∀ H', Same H H' → Q (.bl true) H'
def t_h1_10 (g : Ga) : TS := (tDrop (tBM g.K "list" rApp (tVar 7) (tCons (tCall (sp_law_behind g) [] E0 (tCons (tVar 0) (tCons (tOp (rIxL g.K) (tVar 7) (tUn rNeg (tC (.int 1)))) (tCons (tVar 8) tNil)))) tNil)))
def t_h1_13 (g : Ga) : TS := (tRet (tAndV (tOp rEq (tCall (sp_is_fair g) [] E0 (tCons (tVar 3) (tCons (tOp (rIxT g.K) (tVar 4) (tC (.int 0))) (tCons (tOp (rIxT g.K) (tVar 4) (tC (.int 1))) tNil)))) (tC (.bl true))) (tOp (rEqD g.K) (tCall (sp_fair_run g) [] E0 (tCons (tVar 3) (tCons (tVar 2) tNil))) (tVar 4))))
def t_h1_12 (g : Ga) : TS := (tSeq (tIfS (tOr (tTest (tOp (rNeD g.K) (tOp (rIxL g.K) (tVar 9) (tC (.int 0))) (tOp (rIxL g.K) (tVar 9) (tUn rNeg (tC (.int 1)))))) (tNot (tB (tCall (sp_law_fair g) [] E0 (tCons (tVar 0) (tCons (tVar 1) (tCons (tCall (sp_law_once g) [] E0 (tCons (tVar 9) tNil)) (tCons (tOp (rIxT g.K) (tVar 4) (tC (.int 1))) tNil)))))))) (tRet (tC (.bl false))) tNext) (t_h1_13 g))
def t_h1_11 (g : Ga) : TS := (tSeq (tAsg (tSl (rSlL g.K) (tVar 7) (tPart (tCB (rLenS g.K) (tCons (tOp (rIxT g.K) (tVar 4) (tC (.int 0))) tNil))) tNoPart) (gName 9)) (t_h1_12 g))
def t_h1_9 (g : Ga) : TS := (tSeq (tFor (iTup g.K (tVar 6)) (gName 8) (t_h1_10 g)) (t_h1_11 g))
def t_h1_8 (g : Ga) : TS := (tSeq (tAsg (tLst (tCons (tCall (sp_law_start g) [] E0 (tCons (tVar 0) tNil)) tNil)) (gName 7)) (t_h1_9 g))
def t_h1_7 (g : Ga) : TS := (tSeq (tIfS (tTest (tOp rNe (tCall (sp_law_wrong_at g) [] E0 (tCons (tVar 0) (tCons (tVar 6) tNil))) (tCB (rLenS g.K) (tCons (tVar 6) tNil)))) (tRet (tC (.bl false))) tNext) (t_h1_8 g))
def t_h1_6 (g : Ga) : TS := (tSeq (tAsg (tOp (rCatA g.K) (tOp (rIxT g.K) (tVar 4) (tC (.int 0))) (tOp (rIxT g.K) (tVar 4) (tC (.int 1)))) (gName 6)) (t_h1_7 g))
def t_h1_5 (g : Ga) : TS := (tSeq (tIfS (tOr (tTest (tOp rGt (tCB (rLenS g.K) (tCons (tOp (rIxT g.K) (tVar 4) (tC (.int 0))) tNil)) (tOp rAdd (tCB (rLenS g.K) (tCons (tVar 2) tNil)) (tVar 5)))) (tTest (tOp rGt (tCB (rLenS g.K) (tCons (tOp (rIxT g.K) (tVar 4) (tC (.int 1))) tNil)) (tVar 5)))) (tRet (tC (.bl false))) tNext) (t_h1_6 g))
def t_h1_4 (g : Ga) : TS := (tSeq (tAsg (tCall (sp_law_room g) [] E0 (tCons (tVar 0) tNil)) (gName 5)) (t_h1_5 g))
def t_h1_3 (g : Ga) : TS := (tSeq (tIfS (tOr (tNot (tB (tCB (rIsi g.K) (tCons (tOp (rIxT g.K) (tVar 4) (tC (.int 0))) (tCons (tC (.ty "tuple")) tNil))))) (tOr (tNot (tB (tCB (rIsi g.K) (tCons (tOp (rIxT g.K) (tVar 4) (tC (.int 1))) (tCons (tC (.ty "tuple")) tNil))))) (tTest (tOp (rNeD g.K) (tSl (rSlA g.K) (tOp (rIxT g.K) (tVar 4) (tC (.int 0))) tNoPart (tPart (tCB (rLenS g.K) (tCons (tVar 2) tNil)))) (tVar 2))))) (tRet (tC (.bl false))) tNext) (t_h1_4 g))
def t_h1_2 (g : Ga) : TS := (tSeq (tIfS (tOr (tNot (tB (tCB (rIsi g.K) (tCons (tVar 4) (tCons (tC (.ty "tuple")) tNil))))) (tTest (tOp rNe (tCB (rLenS g.K) (tCons (tVar 4) tNil)) (tC (.int 2))))) (tRet (tC (.bl false))) tNext) (t_h1_3 g))
def t_h1_1 (g : Ga) : TS := (tSeq (tAsg (tCall (sp_fair_run g) [] E0 (tCons (tVar 3) (tCons (tVar 2) tNil))) (gName 4)) (t_h1_2 g))
def t_k21__law_holds (g : Ga) : TS := (tSeq (tAsg (tCall (sp_law_system g) [] E0 (tCons (tVar 0) (tCons (tVar 1) tNil))) (gName 3)) (t_h1_1 g))
structure H1At (g : Ga) (B : Hp) (rl cl rt x t st lo : Addr) (zs : List Str) (rs : List Rw) (ks : List Int) (us us1 us2 : List V) (ms made : List Move) (b : Nat) (ps ps' : List (List Int)) : Prop where
  hr : RowsAt g B rl rs
  hcl : B cl = some (.lst (ks.map V.int))
  dr : DrawnRows zs 3 4 3 rs ks
  hu : SqT g.K B rt us
  hm : Paired (MoveAt g.K B) us ms
  wk : WalkOk rs ps ms
  few : ms.length ≤ 1000
  hx : SysAt g B x rs ks
  fr : ∃ p, ps.getLast? = some p ∧ (made, b) = frun rs ks p
  ht : B t = some (.tup [.ref st, .ref lo])
  hst : SqT g.K B st us1
  hlo : SqT g.K B lo us2
  m1 : Paired (MoveAt g.K B) us1 (ms ++ made.take b)
  m2 : Paired (MoveAt g.K B) us2 (made.drop b)
  wk2 : WalkOk rs ps' (ms ++ made)
  bm : b ≤ made.length
  ml : made.length ≤ 4 * cartN rs
  ml2 : made.length ≤ 324
  fair : isFairB rs ks (ps'.drop (ms.length + b)) (made.drop b) = true
theorem H1At.mono {g : Ga} {B H : Hp} {rl cl rt x t st lo : Addr} {zs : List Str} {rs : List Rw} {ks : List Int} {us us1 us2 : List V} {ms made : List Move} {b : Nat} {ps ps' : List (List Int)} (s : Same B H) (h : H1At g B rl cl rt x t st lo zs rs ks us us1 us2 ms made b ps ps') : H1At g H rl cl rt x t st lo zs rs ks us us1 us2 ms made b ps ps' :=
  ⟨h.hr.mono s, s _ _ h.hcl, h.dr, Same.tup s h.hu, paired_mono (fun _ _ z => z.mono s) h.hm, h.wk, h.few, h.hx.mono s, h.fr, s _ _ h.ht, Same.tup s h.hst, Same.tup s h.hlo, paired_mono (fun _ _ z => z.mono s) h.m1, paired_mono (fun _ _ z => z.mono s) h.m2, h.wk2, h.bm, h.ml, h.ml2, h.fair⟩
theorem DrawnRows.r3 {zs : List Str} {mh mw : Nat} {rs : List Rw} {ks : List Int} (h : DrawnRows zs mh mw 3 rs ks) : ∀ r ∈ rs, (reachL r.2 r.1).length ≤ 3 := fun r hr => (h.ok r hr).reach
/-- the last lines: the fair run is fair, and told again -/
theorem pure_h1_13 {g : Ga} {H : Hp} {Q : VK} {p5 p6 p7 p8 p9 : Option V} {rl cl rt x t st lo : Addr} {zs : List Str} {rs : List Rw} {ks : List Int} {us us1 us2 : List V} {ms made : List Move} {b : Nat} {ps ps' : List (List Int)} (h : H1At g H rl cl rt x t st lo zs rs ks us us1 us2 ms made b ps ps') (q : ∀ H', Same H H' → Q (.bl true) H') :
    t_h1_13 g (endsQ Q) [some (.ref rl), some (.ref cl), some (.ref rt), some (.ref x), some (.ref t), p5, p6, p7, p8, p9] H := by
  have sm := h.dr.small (by decide) (by decide)
  have few := h.few
  have ml2 := h.ml2
  have n2 := h.dr.n2
  have k4 : ks.length ≤ 4 := Nat.le_trans (asc_len h.dr.asc h.dr.rng) (by omega)
  have c81 := cart27 h.dr.r3 (by omega)
  have ea : (ms ++ made.take b) ++ made.drop b = ms ++ made := by rw [List.append_assoc, List.take_append_drop]
  have lb : (ms ++ made.take b).length = ms.length + b := by rw [List.length_append, List.length_take]; have := h.bm; omega
  refine s_rt (t_and (Q := Q) ?_)
  refine ⟨_, rfl, _, rfl, t, _, _, .ref st, rfl, rfl, SqT.of h.ht, rfl, _, rfl, t, _, _, .ref lo, rfl, rfl, SqT.of h.ht, rfl, x, st, lo, rs, ks, us1, us2, ms ++ made.take b, made.drop b, ps', rfl, h.hx, sm, h.dr.rng, h.hst, h.hlo, h.m1, h.m2, by rw [ea]; exact h.wk2, by rw [ea, List.length_append]; omega, fun H1 s1 => ?_⟩
  rw [lb, h.fair]
  refine ⟨rfl, true, rfl, iteT ?_⟩
  obtain ⟨p, hp, ef⟩ := h.fr
  have h1 := h.mono s1
  refine ⟨_, rfl, _, rfl, x, rt, rs, ks, us, ms, ps, p, rfl, h1.hx, sm, h.dr.rng, k4, h1.hu, h1.hm, h.wk, few, by omega, hp, fun t' st' lo' us1' us2' made' b' ps2 H2 s2 ef' ht' hst' hlo' m1' m2' _ _ _ _ => ?_⟩
  have e2 := ef'.trans ef.symm
  cases e2
  have h2 := h1.mono s2
  have nm := h.wk2.names h.dr
  have na : ∀ m ∈ ms ++ made.take b, IsName m.1 := fun m hm => nm m (by
    rcases List.mem_append.mp hm with z | z
    · exact List.mem_append.mpr (.inl z)
    · exact List.mem_append.mpr (.inr (List.mem_of_mem_take z)))
  have nb : ∀ m ∈ made.drop b, IsName m.1 := fun m hm => nm m (List.mem_append.mpr (.inr (List.mem_of_mem_drop hm)))
  refine ⟨_, rfl, .tuple [runD (ms ++ made.take b), runD (made.drop b)], .tuple [runD (ms ++ made.take b), runD (made.drop b)], .tup (SqT.of ht') (.cons (dp_run hst' m1') (.cons (dp_run hlo' m2') .nil)), .tup (SqT.of h2.ht) (.cons (dp_run h2.hst h2.m1) (.cons (dp_run h2.hlo h2.m2) .nil)), pair_shaped na nb, pair_shaped na nb, ?_⟩
  rw [pair_eqv]
  exact q H2 (s1.trans s2)
/-- the places of the fair run, and its loop -/
theorem pure_h1_9 {g : Ga} {B H : Hp} {Q : VK} {p5 : Option V} {rl cl rt x t st lo mv pl : Addr} {zs : List Str} {rs : List Rw} {ks : List Int} {us us1 us2 : List V} {ms made : List Move} {b : Nat} {ps ps' : List (List Int)} {u0 : V} (h : H1At g B rl cl rt x t st lo zs rs ks us us1 us2 ms made b ps ps') (hmv : SqT g.K B mv (us1 ++ us2)) (s0 : Same B H) (npl : B pl = none) (hpl : H pl = some (.lst [u0])) (hu0 : StAt g.K H u0 (rs.map (·.1))) (q : ∀ H', Same B H' → Q (.bl true) H') :
    t_h1_9 g (endsQ Q) [some (.ref rl), some (.ref cl), some (.ref rt), some (.ref x), some (.ref t), p5, some (.ref mv), some (.ref pl), none, none] H := by
  have sm := h.dr.small (by decide) (by decide)
  have r24 : ∀ r ∈ rs, r.2.length ≤ 24 := fun r h' => (h.dr.ok r h').l2
  have few := h.few
  have ml2 := h.ml2
  have n2 := h.dr.n2
  have ea : (ms ++ made.take b) ++ made.drop b = ms ++ made := by rw [List.append_assoc, List.take_append_drop]
  have wk := h.wk2
  have wl := wk.len
  rw [List.length_append] at wl
  have m12 : Paired (MoveAt g.K B) (us1 ++ us2) (ms ++ made) := by rw [← ea]; exact paired_app h.m1 h.m2
  have lm12 := m12.length
  rw [List.length_append, List.length_append] at lm12
  refine ⟨_, rfl, mv, rfl, ⟨_, Same.tup s0 hmv⟩, ?_⟩
  refine for_tup (K := g.K) (a := mv) (xs := us1 ++ us2) (fun i σ H' => ∃ (xs : List V) (p8 : Option V), σ = [some (.ref rl), some (.ref cl), some (.ref rt), some (.ref x), some (.ref t), p5, some (.ref mv), some (.ref pl), p8, none] ∧ Same B H' ∧ H' pl = some (.lst xs) ∧ Paired (StAt g.K H') xs (ps'.take (i + 1))) ⟨[u0], none, rfl, s0, hpl, ?_⟩ (fun i σ H' _ ⟨_, _, _, z, _⟩ => Same.tup z hmv) ?_ ?_
  · have e : ps'.take (0 + 1) = [rs.map (·.1)] := by rw [List.take_add_one, List.take_zero, wk.hd]; rfl
    rw [e]
    exact .cons hu0 .nil
  · rintro i v σ H' hv ⟨xs, p8, rfl, s1, hp', hxs⟩
    obtain ⟨m, hm1, mvv⟩ := paired_get m12 hv
    have im := (List.getElem?_eq_some_iff.mp hm1).1
    rw [List.length_append] at im
    obtain ⟨p, hp1⟩ : ∃ p, ps'[i]? = some p := ⟨ps'[i]'(by omega), List.getElem?_eq_getElem _⟩
    have sp := wk.st p (List.mem_of_getElem? hp1)
    have mm := wk.mv i m p hm1 hp1
    have nx := wk.nx i m p hm1 hp1
    obtain ⟨vl, val⟩ := valid_of mm sp.len
    have lt : (ps'.take (i + 1)).getLast? = some p := by
      rw [List.getLast?_eq_getElem?, List.length_take, show min (i + 1) ps'.length - 1 = i by omega, List.getElem?_take_of_lt (by omega)]; exact hp1
    obtain ⟨y, hy, sty⟩ := paired_last hxs lt
    have lx := hxs.length
    rw [List.length_take] at lx
    show t_h1_10 g _ [some (.ref rl), some (.ref cl), some (.ref rt), some (.ref x), some (.ref t), p5, some (.ref mv), some (.ref pl), some v, none] H'
    refine ⟨_, rfl, .inl ⟨rfl, _, SqL.of hp'⟩, _, rfl, _, rfl, 1, rfl, pl, xs, _, y, rfl, rfl, SqL.of hp', atI_getLast hy, _, rfl, rl, y, v, rs, p, m, rfl, h.hr.mono s1, sty, mvv.mono s1, sp.len, vl, val, by omega, fun u' H2 s2 hu' => ?_⟩
    have hp2 := s2 _ _ hp'
    refine ⟨pl, _, _, rfl, rfl, hp2, big_line (by omega), xs ++ [u'], _, rfl, Same.own (s1.trans s2) npl, upd_same, ?_⟩
    rw [List.take_add_one (i := i + 1), nx, Option.toList_some]
    exact paired_app (paired_mono (fun _ _ z => (z.mono s2).upd hp2) hxs) (.cons (hu'.upd hp2) .nil)
  · rintro σ H' ⟨xs, p8, rfl, s1, hp', hxs⟩
    rw [List.take_of_length_le (by rw [List.length_append]; omega)] at hxs
    have lx := hxs.length
    have h' := h.mono s1
    have lu1 := h'.m1.length
    have lb : (ms ++ made.take b).length = ms.length + b := by rw [List.length_append, List.length_take]; have := h.bm; omega
    rw [lb] at lu1
    have bm := h.bm
    show t_h1_11 g (endsQ Q) [some (.ref rl), some (.ref cl), some (.ref rt), some (.ref x), some (.ref t), p5, some (.ref mv), some (.ref pl), p8, none] H'
    refine ⟨_, rfl, _, rfl, t, _, _, .ref st, rfl, rfl, SqT.of h'.ht, rfl, st, us1, rfl, .inr h'.hst, _, rfl, pl, xs, rfl, SqL.of hp', fun ar har => ?_⟩
    rw [cutV_from (by omega), lu1]
    have s2 : Same H' (upd H' ar (.lst (xs.drop (ms.length + b)))) := Same.new har
    have hap := paired_mono (F := StAt g.K H') (fun _ _ z => z.mono s2) (paired_drop (ms.length + b) hxs)
    have har2 : (upd H' ar (.lst (xs.drop (ms.length + b)))) ar = some (.lst (xs.drop (ms.length + b))) := upd_same
    have h2 := h'.mono s2
    generalize upd H' ar (.lst (xs.drop (ms.length + b))) = H2 at s2 hap har2 h2
    generalize hAX : xs.drop (ms.length + b) = ax at hap har2
    have fair := h.fair
    have pst : ∀ p ∈ ps'.drop (ms.length + b), p.length = rs.length := fun p hp => (wk.st p (List.mem_of_mem_drop hp)).len
    have lap : (ps'.drop (ms.length + b)).length = made.length - b + 1 := by rw [List.length_drop]; omega
    generalize ps'.drop (ms.length + b) = aps at hap fair pst lap
    show t_h1_12 g (endsQ Q) [some (.ref rl), some (.ref cl), some (.ref rt), some (.ref x), some (.ref t), p5, some (.ref mv), some (.ref pl), p8, some (.ref ar)] H2
    have la := hap.length
    obtain ⟨q1, hq1⟩ : ∃ q, aps.getLast? = some q := ⟨aps.getLast (fun z => by rw [z] at lap; simp at lap), List.getLast?_eq_some_getLast _⟩
    obtain ⟨y1, hy1, st1⟩ := paired_last hap hq1
    obtain ⟨eq0, fb⟩ := Bool.and_eq_true_iff.mp fair
    have eq0 := of_decide_eq_true eq0
    obtain ⟨y0, hy0, st0⟩ : ∃ y, ax[0]? = some y ∧ StAt g.K H2 y q1 := by
      have il : 0 < ax.length := by omega
      obtain ⟨p, hp, z⟩ := paired_get hap (List.getElem?_eq_getElem il)
      rw [← eq0, hq1] at hp
      cases hp
      exact ⟨_, List.getElem?_eq_getElem il, z⟩
    refine ⟨_, rfl, ar, ax, _, y0, rfl, rfl, SqL.of har2, atI_nat (j := 0) hy0, _, rfl, 1, rfl, ar, ax, _, y1, rfl, rfl, SqL.of har2, atI_getLast hy1, stD q1, stD q1, dp_st st0, dp_st st1, st_shaped q1, st_shaped q1, _, rfl, ?_⟩
    rw [st_eqv, decide_eq_true rfl]
    refine iteF ?_
    refine ⟨_, rfl, _, rfl, _, rfl, ar, ax, aps, rfl, har2, hap, by omega, fun D ys qs H3 s3 nD hD hqs mem => ?_⟩
    have h3 := h2.mono s3
    refine ⟨_, rfl, t, _, _, .ref lo, rfl, rfl, SqT.of h3.ht, rfl, rl, cl, D, lo, rs, ks, ys, us2, qs, made.drop b, rfl, h3.hr, sm, r24, h3.hcl, h.dr.rng, hD, hqs, fun p hp => pst p ((mem p).mp hp), h3.hlo, h3.m2, fun m hm => wk.mlen m (List.mem_append.mpr (.inr (List.mem_of_mem_drop hm))), by rw [List.length_drop]; omega, fun H4 s4 => ?_⟩
    have ef : fairB rs ks qs (made.drop b) = true := by
      have : fairB rs ks qs (made.drop b) = fairB rs ks aps (made.drop b) := by unfold fairB; simp only [allAble_mem mem]
      rw [this]; exact fb
    rw [ef]
    refine ⟨true, rfl, iteF ?_⟩
    show t_h1_13 g (endsQ Q) [some (.ref rl), some (.ref cl), some (.ref rt), some (.ref x), some (.ref t), p5, some (.ref mv), some (.ref pl), p8, some (.ref ar)] H4
    exact pure_h1_13 (h3.mono s4) fun H5 s5 => q H5 (s1.trans (s2.trans (s3.trans (s4.trans s5))))
end Sd
namespace Sd
open PySem PySem.Spec PyProof.Rows L2
theorem pure_k21__law_holds {g : Ga} {vs : List V} {H : Hp} {Q : VK} {E : XK} {N : List Str} (hN : N.length = 10) (h : sp_k21_holds g vs H Q E) : t_k21__law_holds g (endsQ Q) (L2.start N vs) H := by
  obtain ⟨rl, cl, rt, zs, rs, ks, us, ms, ps, rfl, hr, hcl, dr, hu, hm, wk, few, q⟩ := h
  have e0 : L2.start N [.ref rl, .ref cl, .ref rt] = [some (.ref rl), some (.ref cl), some (.ref rt), none, none, none, none, none, none, none] := by unfold L2.start; rw [hN]; rfl
  rw [e0]
  have sm := dr.small (by decide) (by decide)
  have r24 : ∀ r ∈ rs, r.2.length ≤ 24 := fun r h' => (dr.ok r h').l2
  have n2 := dr.n2
  have k4 : ks.length ≤ 4 := Nat.le_trans (asc_len dr.asc dr.rng) (by omega)
  have c81 := cart27 dr.r3 (by omega)
  have wl := wk.len
  have lu := hm.length
  obtain ⟨p, hp⟩ : ∃ q, ps.getLast? = some q := ⟨ps.getLast (fun z => by rw [z] at wl; simp at wl), List.getLast?_eq_some_getLast _⟩
  refine ⟨_, rfl, _, rfl, rl, cl, rs, ks, rfl, hr, hcl, dr.sys (by decide) (by decide) (by decide), fun x H1 s1 nx hx => ?_⟩
  show t_h1_1 g (endsQ Q) [some (.ref rl), some (.ref cl), some (.ref rt), some (.ref x), none, none, none, none, none, none] H1
  refine ⟨_, rfl, _, rfl, x, rt, rs, ks, us, ms, ps, p, rfl, hx, sm, dr.rng, k4, Same.tup s1 hu, paired_mono (fun _ _ z => z.mono s1) hm, wk, few, by omega, hp, fun t st lo us1 us2 made b ps' H2 s2 efr ht hst hlo m1 m2 wk2 bm ml fair => ?_⟩
  have ml1 : made.length ≤ 4 * cartN rs := Nat.le_trans ml (Nat.mul_le_mul_right _ k4)
  have s02 := s1.trans s2
  have h2 : H1At g H2 rl cl rt x t st lo zs rs ks us us1 us2 ms made b ps ps' := ⟨hr.mono s02, s02 _ _ hcl, dr, Same.tup s02 hu, paired_mono (fun _ _ z => z.mono s02) hm, wk, few, hx.mono s2, ⟨p, hp, efr⟩, ht, hst, hlo, m1, m2, wk2, bm, ml1, by omega, fair⟩
  show t_h1_2 g (endsQ Q) [some (.ref rl), some (.ref cl), some (.ref rt), some (.ref x), some (.ref t), none, none, none, none, none] H2
  refine ⟨_, rfl, _, .ty "tuple", _, _, true, rfl, .ty _, st_ty (SqT.of ht), kb (by decide +kernel), true, rfl, iteF ?_⟩
  refine ⟨_, rfl, t, _, rfl, .inr (SqT.of ht), rfl, _, rfl, iteF ?_⟩
  show t_h1_3 g (endsQ Q) [some (.ref rl), some (.ref cl), some (.ref rt), some (.ref x), some (.ref t), none, none, none, none, none] H2
  refine ⟨_, rfl, t, _, _, .ref st, rfl, rfl, SqT.of ht, rfl, _, .ty "tuple", _, _, true, rfl, .ty _, st_ty hst, kb (by decide +kernel), true, rfl, iteF ?_⟩
  refine ⟨_, rfl, t, _, _, .ref lo, rfl, rfl, SqT.of ht, rfl, _, .ty "tuple", _, _, true, rfl, .ty _, st_ty hlo, kb (by decide +kernel), true, rfl, iteF ?_⟩
  have lu1 := m1.length
  have lb : (ms ++ made.take b).length = ms.length + b := by rw [List.length_append, List.length_take]; omega
  rw [lb] at lu1
  have lu2 := m2.length
  rw [List.length_drop] at lu2
  have nm := wk.names dr
  refine ⟨_, rfl, t, _, _, .ref st, rfl, rfl, SqT.of ht, rfl, _, rfl, rt, us, rfl, .inr h2.hu, _, rfl, sl_tup hst fun c H3 s3 hc => ?_⟩
  rw [cutV_to (by omega)] at hc
  have h3 := h2.mono s3
  have mc : Paired (MoveAt g.K H3) (us1.take us.length) ms := by
    have := paired_take us.length h3.m1
    rw [lu, List.take_left] at this
    rw [lu]; exact this
  refine ⟨_, rfl, runD ms, runD ms, dp_run hc mc, dp_run h3.hu h3.hm, run_shaped nm, run_shaped nm, _, rfl, ?_⟩
  rw [run_eqv]
  refine iteF ?_
  show t_h1_4 g (endsQ Q) [some (.ref rl), some (.ref cl), some (.ref rt), some (.ref x), some (.ref t), none, none, none, none, none] H3
  refine ⟨_, rfl, rl, rs, rfl, h3.hr, by omega, r24, dr.r3, fun H4 s4 => ?_⟩
  have h4 := h3.mono s4
  show t_h1_5 g (endsQ Q) [some (.ref rl), some (.ref cl), some (.ref rt), some (.ref x), some (.ref t), some (.int (4 * cartN rs : Nat)), none, none, none, none] H4
  refine ⟨_, rfl, t, _, _, .ref st, rfl, rfl, SqT.of h4.ht, rfl, st, us1, rfl, .inr h4.hst, _, rfl, rt, us, rfl, .inr h4.hu, _, rfl, _, _, rfl, rfl, _, _, rfl, rfl, _, rfl, ?_⟩
  rw [decide_eq_false (by omega)]
  refine iteF ⟨_, rfl, t, _, _, .ref lo, rfl, rfl, SqT.of h4.ht, rfl, lo, us2, rfl, .inr h4.hlo, _, rfl, _, _, rfl, rfl, _, rfl, ?_⟩
  rw [decide_eq_false (by omega)]
  refine iteF ?_
  show t_h1_6 g (endsQ Q) [some (.ref rl), some (.ref cl), some (.ref rt), some (.ref x), some (.ref t), some (.int (4 * cartN rs : Nat)), none, none, none, none] H4
  refine ⟨_, rfl, t, _, _, .ref st, rfl, rfl, SqT.of h4.ht, rfl, _, rfl, t, _, _, .ref lo, rfl, rfl, SqT.of h4.ht, rfl, cat_tup h4.hst h4.hlo (by omega) fun mv H5 s5 hmv => ?_⟩
  have h5 := h4.mono s5
  have ea : (ms ++ made.take b) ++ made.drop b = ms ++ made := by rw [List.append_assoc, List.take_append_drop]
  have m12 : Paired (MoveAt g.K H5) (us1 ++ us2) (ms ++ made) := by rw [← ea]; exact paired_app h5.m1 h5.m2
  have l12 := m12.length
  show t_h1_7 g (endsQ Q) [some (.ref rl), some (.ref cl), some (.ref rt), some (.ref x), some (.ref t), some (.int (4 * cartN rs : Nat)), some (.ref mv), none, none, none] H5
  refine ⟨_, rfl, _, rfl, rl, mv, rs, us1 ++ us2, ms ++ made, ps', rfl, h5.hr, sm, r24, hmv, m12, wk2, by rw [List.length_append]; omega, fun H6 s6 => ⟨_, rfl, mv, _, rfl, .inr (Same.tup s6 hmv), rfl, _, rfl, ?_⟩⟩
  rw [decide_eq_true (show V.int ((ms ++ made).length : Int) = V.int ((us1 ++ us2).length : Int) by rw [l12])]
  refine iteF ?_
  have h6 := h5.mono s6
  show t_h1_8 g (endsQ Q) [some (.ref rl), some (.ref cl), some (.ref rt), some (.ref x), some (.ref t), some (.int (4 * cartN rs : Nat)), some (.ref mv), none, none, none] H6
  refine ⟨_, rfl, rl, rs, rfl, h6.hr, by omega, fun u0 H7 s7 hu0 => ⟨by show 1 ≤ sizeLine; decide, fun pl hpl => ?_⟩⟩
  have s8 : Same H7 (upd H7 pl (.lst [u0])) := Same.new hpl
  exact pure_h1_9 (h6.mono s7) (Same.tup (s6.trans s7) hmv) s8 hpl upd_same (hu0.mono s8) fun H' s' => q H' (s02.trans (s3.trans (s4.trans (s5.trans (s6.trans (s7.trans s'))))))
/-! ### the law -/
def sp_k21_law (g : Ga) : Sp := fun vs H Q _ => ∃ (a : Addr) (ns : List Int), vs = [.ref a] ∧ SqL g.K H a (ns.map V.int) ∧ ns.length ≤ 63 ∧ ∀ H', Q (.bl true) H'
def t_l1_5 (g : Ga) : TS := (tIfS (tNot (tB (tCall (sp_k21_holds g) [] E0 (tCons (tOp (rIxT g.K) (tVar 1) (tC (.int 0))) (tCons (tVar 6) (tCons (tVar 5) tNil)))))) (tRet (tC (.bl false))) tNext)
def t_l1_4 (g : Ga) : TS := (tFor (iList g.K (tLst (tCons (tOp (rIxT g.K) (tVar 1) (tC (.int 1))) (tCons (tVar 4) (tCons (tLst tNil) tNil))))) (gName 6) (t_l1_5 g))
def t_l1_3 (g : Ga) : TS := (tSeq (tFor (iList g.K (tLst (tCons (tTup tNil) (tCons (tVar 3) (tCons (tOp (rIxT g.K) (tVar 2) (tC (.int 0))) tNil))))) (gName 5) (t_l1_4 g)) (tRet (tC (.bl true))))
def t_l1_2 (g : Ga) : TS := (tSeq (tAsg (tLstRg (tRg1 (tCB (rLenS g.K) (tCons (tOp (rIxT g.K) (tVar 1) (tC (.int 0))) tNil)))) (gName 4)) (t_l1_3 g))
def t_l1_1 (g : Ga) : TS := (tSeq (tAsg (tSl (rSlA g.K) (tOp (rIxT g.K) (tVar 2) (tC (.int 0))) tNoPart (tPart (tOp rMod (tCB rInt1 (tCons (tCall (sp_law_cell g) [] E0 (tCons (tVar 0) (tCons (tC (.int 4)) tNil))) tNil)) (tOp rAdd (tCB (rLenS g.K) (tCons (tOp (rIxT g.K) (tVar 2) (tC (.int 0))) tNil)) (tC (.int 1)))))) (gName 3)) (t_l1_2 g))
def t_k21_law (g : Ga) : TS := (tSeq (tAsg (tCall (sp_law_rows g) [] E0 (tCons (tVar 0) (tCons (tC (.int 3)) (tCons (tC (.int 4)) (tCons (tC (.int 3)) (tCons (tC (.int 6)) tNil)))))) (gName 1)) (tSeq (tAsg (tCall (sp_law_walk g) [] E0 (tCons (tOp (rIxT g.K) (tVar 1) (tC (.int 0))) (tCons (tSl (rSlL g.K) (tVar 0) (tPart (tC (.int 5))) tNoPart) tNil))) (gName 2)) (t_l1_1 g)))
theorem DrawnRows.other {zs : List Str} {mh mw ms : Nat} {rs : List Rw} {ks ks' : List Int} (h : DrawnRows zs mh mw ms rs ks) (a : AscI ks') (r : ∀ k ∈ ks', 0 ≤ k ∧ k < (rs.length : Int)) : DrawnRows zs mh mw ms rs ks' := ⟨h.ok, h.zl, h.zn, h.n1, h.n2, a, r⟩
theorem asc_range (n : Nat) : AscI ((List.range n).map fun k : Nat => (k : Int)) := by
  unfold AscI
  rw [List.pairwise_map]
  exact List.pairwise_lt_range.imp fun h => by omega
theorem rgV_range (n : Nat) : rgV 0 (n : Int) = ((List.range n).map fun k : Nat => (k : Int)).map V.int := by
  unfold rgV
  rw [List.map_map]
  simp
structure L1At (g : Ga) (B : Hp) (pt rl cl wt rt rt1 ev : Addr) (zs : List Str) (rs : List Rw) (ks : List Int) (us us1 : List V) (ms ms1 : List Move) (ps ps1 : List (List Int)) : Prop where
  hpt : B pt = some (.tup [.ref rl, .ref cl])
  hr : RowsAt g B rl rs
  hcl : B cl = some (.lst (ks.map V.int))
  dr : DrawnRows zs 3 4 3 rs ks
  hwt : ∃ pl : Addr, B wt = some (.tup [.ref rt, .ref pl])
  hu : SqT g.K B rt us
  hm : Paired (MoveAt g.K B) us ms
  wk : WalkOk rs ps ms
  few : ms.length ≤ 1000
  hu1 : SqT g.K B rt1 us1
  hm1 : Paired (MoveAt g.K B) us1 ms1
  wk1 : WalkOk rs ps1 ms1
  few1 : ms1.length ≤ 1000
  hev : B ev = some (.lst (((List.range rs.length).map fun k : Nat => (k : Int)).map V.int))
/-- for each choice of diligent hands -/
theorem pure_l1_4 {g : Ga} {D : Ends} {B H : Hp} {p0 p6 : Option V} {pt rl cl wt rt rt1 ev r0 : Addr} {zs : List Str} {rs : List Rw} {ks : List Int} {us us1 u0 : List V} {ms ms1 m0 : List Move} {ps ps1 ps0 : List (List Int)} (h : L1At g B pt rl cl wt rt rt1 ev zs rs ks us us1 ms ms1 ps ps1) (s0 : Same B H) (hu : SqT g.K H r0 u0) (hm : Paired (MoveAt g.K H) u0 m0) (wk : WalkOk rs ps0 m0) (few : m0.length ≤ 1000)
    (q : ∀ H' p6, Same H H' → D.nx [p0, some (.ref pt), some (.ref wt), some (.ref rt1), some (.ref ev), some (.ref r0), p6] H') :
    t_l1_4 g D [p0, some (.ref pt), some (.ref wt), some (.ref rt1), some (.ref ev), some (.ref r0), p6] H := by
  refine ⟨_, rfl, pt, _, _, .ref cl, rfl, rfl, SqT.of (s0 _ _ h.hpt), rfl, _, rfl, by show 0 ≤ sizeLine; decide, fun em hem => ⟨by show 3 ≤ sizeLine; decide, fun ch hch => ?_⟩⟩
  have s1 : Same H (upd H em (.lst [])) := Same.new hem
  have s2 : Same (upd H em (.lst [])) (upd (upd H em (.lst [])) ch (.lst [.ref cl, .ref ev, .ref em])) := Same.new hch
  have s12 := s1.trans s2
  have hem2 := s2 _ _ (upd_same (o := HO.lst []) (H := H) (a := em))
  have hch2 : (upd (upd H em (.lst [])) ch (.lst [.ref cl, .ref ev, .ref em])) ch = some (.lst [.ref cl, .ref ev, .ref em]) := upd_same
  generalize upd (upd H em (.lst [])) ch (.lst [.ref cl, .ref ev, .ref em]) = H2 at s2 s12 hem2 hch2
  have s02 := s0.trans s12
  refine ⟨ch, rfl, ⟨_, SqL.of hch2⟩, for_list (K := g.K) (a := ch) (xs := [.ref cl, .ref ev, .ref em]) (fun i σ H' => ∃ p6 : Option V, σ = [p0, some (.ref pt), some (.ref wt), some (.ref rt1), some (.ref ev), some (.ref r0), p6] ∧ Same H2 H') ⟨_, rfl, Same.refl _⟩ (fun i σ H' _ ⟨_, _, z⟩ => SqL.of (z _ _ hch2)) ?_ ?_⟩
  · rintro i v σ H' hv ⟨p6, rfl, s3⟩
    have s03 := s02.trans s3
    have s13 := s12.trans s3
    obtain ⟨a, ks', rfl, ha, dr'⟩ : ∃ (a : Addr) (ks' : List Int), v = .ref a ∧ H' a = some (.lst (ks'.map V.int)) ∧ DrawnRows zs 3 4 3 rs ks' := by
      match i, hv with
      | 0, hv => cases hv; exact ⟨cl, ks, rfl, s03 _ _ h.hcl, h.dr⟩
      | 1, hv => cases hv; exact ⟨ev, _, rfl, s03 _ _ h.hev, h.dr.other (asc_range _) fun k hk => by
          obtain ⟨j, hj, rfl⟩ := List.mem_map.mp hk
          have := List.mem_range.mp hj
          omega⟩
      | 2, hv => cases hv; exact ⟨em, [], rfl, s3 _ _ hem2, h.dr.other List.Pairwise.nil fun k hk => by cases hk⟩
      | n + 3, hv => cases hv
    show t_l1_5 g _ [p0, some (.ref pt), some (.ref wt), some (.ref rt1), some (.ref ev), some (.ref r0), some (.ref a)] H'
    refine ⟨_, rfl, pt, _, _, .ref rl, rfl, rfl, SqT.of (s03 _ _ h.hpt), rfl, _, rfl, _, rfl, rl, a, r0, zs, rs, ks', u0, m0, ps0, rfl, h.hr.mono s03, ha, dr', Same.tup s13 hu, paired_mono (fun _ _ z => z.mono s13) hm, wk, few, fun H4 s4 => ⟨true, rfl, iteF ⟨_, rfl, s3.trans s4⟩⟩⟩
  · rintro σ H' ⟨p6, rfl, s3⟩
    exact q H' p6 (s12.trans s3)
theorem pure_k21_law {g : Ga} {vs : List V} {H : Hp} {Q : VK} {E : XK} {N : List Str} (hN : N.length = 7) (h : sp_k21_law g vs H Q E) : t_k21_law g (endsQ Q) (L2.start N vs) H := by
  obtain ⟨a, ns, rfl, ha, n63, q⟩ := h
  have e0 : L2.start N [.ref a] = [some (.ref a), none, none, none, none, none, none] := by unfold L2.start; rw [hN]; rfl
  rw [e0]
  refine ⟨_, rfl, a, ns, 3, 4, 3, 6, rfl, ha, by decide, by decide, by decide, by decide, by decide, by decide, by decide, by decide, fun pt rl cl rs ks zs H1 s1 npt nrl ncl hpt hr hcl dr => ?_⟩
  have sm := dr.small (by decide) (by decide)
  have r24 : ∀ r ∈ rs, r.2.length ≤ 24 := fun r h => (dr.ok r h).l2
  obtain ⟨cs, ecs, lcs⟩ := cut_ints ns (some 5) none
  refine ⟨_, rfl, pt, _, _, .ref rl, rfl, rfl, SqT.of hpt, rfl, _, rfl, _, rfl, a, _, rfl, s1.seq ha, fun c hc => ?_⟩
  have s3 : Same H1 (upd H1 c (.lst (cutV (ns.map V.int) (some 5) none))) := Same.new hc
  refine ⟨rl, c, rs, cs, rfl, hr.mono s3, SqL.of (by rw [upd_same, ecs]), by omega, sm, r24, fun wt rt pl us xs ms ps H4 s4 hwt hu hm hp hs wk ml => ?_⟩
  have s14 := s3.trans s4
  have wl := wk.len
  have lu := hm.length
  show t_l1_1 g (endsQ Q) [some (.ref a), some (.ref pt), some (.ref wt), none, none, none, none] H4
  refine ⟨_, rfl, wt, _, _, .ref rt, rfl, rfl, SqT.of hwt, rfl, _, rfl, a, ns, 4, rfl, (s1.trans s14).seq ha, by decide, .inl ⟨_, rfl, _, rfl, wt, _, _, .ref rt, rfl, rfl, SqT.of hwt, rfl, rt, us, rfl, .inr hu, _, _, rfl, rfl, _, _, rfl, rfl, by omega, ?_⟩⟩
  obtain ⟨k, ek⟩ := Int.eq_ofNat_of_zero_le (Int.emod_nonneg (cellV ns 4) (show (us.length : Int) + 1 ≠ 0 by omega))
  have kl : k ≤ us.length := by
    have := Int.emod_lt_of_pos (cellV ns 4) (show (0 : Int) < (us.length : Int) + 1 by omega)
    omega
  refine ⟨_, rfl, ?_⟩
  rw [ek]
  refine sl_tup hu fun rt1 H5 s5 hrt1 => ?_
  rw [cutV_to (by omega)] at hrt1
  show t_l1_2 g (endsQ Q) [some (.ref a), some (.ref pt), some (.ref wt), some (.ref rt1), none, none, none] H5
  have s15 := s14.trans s5
  obtain ⟨xr, hxr, hxp⟩ := (hr.mono s15).ex
  have lxr := hxp.length
  have n2 := dr.n2
  refine ⟨_, rfl, pt, _, _, .ref rl, rfl, rfl, SqT.of (s15 _ _ hpt), rfl, rl, xr, rfl, .inl (SqL.of hxr), _, rfl, ⟨by omega, by omega, by omega, by omega⟩, fun ev hev => ?_⟩
  rw [rgV_range, lxr]
  have s6 : Same H5 (upd H5 ev (.lst (((List.range rs.length).map fun k : Nat => (k : Int)).map V.int))) := Same.new hev
  have hev6 : (upd H5 ev (.lst (((List.range rs.length).map fun k : Nat => (k : Int)).map V.int))) ev = _ := upd_same
  generalize upd H5 ev (.lst (((List.range rs.length).map fun k : Nat => (k : Int)).map V.int)) = H6 at s6 hev6
  have s46 := s5.trans s6
  have s16 := s14.trans s46
  have la : L1At g H6 pt rl cl wt rt rt1 ev zs rs ks us (us.take k) ms (ms.take k) ps (ps.take (k + 1)) := ⟨s16 _ _ hpt, hr.mono s16, s16 _ _ hcl, dr, ⟨pl, s46 _ _ hwt⟩, Same.tup s46 hu, paired_mono (fun _ _ z => z.mono s46) hm, wk, by omega, Same.tup s6 hrt1, paired_mono (fun _ _ z => z.mono s46) (paired_take k hm), wk.take (by omega), by rw [List.length_take]; omega, hev6⟩
  show t_l1_3 g (endsQ Q) [some (.ref a), some (.ref pt), some (.ref wt), some (.ref rt1), some (.ref ev), none, none] H6
  obtain ⟨pl', hwt'⟩ := la.hwt
  refine ⟨by show 0 ≤ sizeLine; decide, fun e1 he1 => ?_⟩
  have s7 : Same H6 (upd H6 e1 (.tup [])) := Same.new he1
  refine ⟨_, rfl, _, rfl, wt, _, _, .ref rt, rfl, rfl, SqT.of (s7 _ _ hwt'), rfl, by show 3 ≤ sizeLine; decide, fun ru hru => ?_⟩
  have s8 : Same (upd H6 e1 (.tup [])) (upd (upd H6 e1 (.tup [])) ru (.lst [.ref e1, .ref rt1, .ref rt])) := Same.new hru
  have s78 := s7.trans s8
  have he8 := s8 _ _ (upd_same (o := HO.tup []) (H := H6) (a := e1))
  have hru8 : (upd (upd H6 e1 (.tup [])) ru (.lst [.ref e1, .ref rt1, .ref rt])) ru = some (.lst [.ref e1, .ref rt1, .ref rt]) := upd_same
  generalize upd (upd H6 e1 (.tup [])) ru (.lst [.ref e1, .ref rt1, .ref rt]) = H8 at s8 s78 he8 hru8
  refine ⟨ru, rfl, ⟨_, SqL.of hru8⟩, for_list (K := g.K) (a := ru) (xs := [.ref e1, .ref rt1, .ref rt]) (fun i σ H' => ∃ p5 p6 : Option V, σ = [some (.ref a), some (.ref pt), some (.ref wt), some (.ref rt1), some (.ref ev), p5, p6] ∧ Same H8 H') ⟨none, none, rfl, Same.refl _⟩ (fun i σ H' _ ⟨_, _, _, z⟩ => SqL.of (z _ _ hru8)) ?_ ?_⟩
  · rintro i v σ H' hv ⟨p5, p6, rfl, s9⟩
    have s69 := s78.trans s9
    obtain ⟨r0, u0, m0, ps0, rfl, hu0, hm0, wk0, few0⟩ : ∃ (r0 : Addr) (u0 : List V) (m0 : List Move) (ps0 : List (List Int)), v = .ref r0 ∧ SqT g.K H' r0 u0 ∧ Paired (MoveAt g.K H') u0 m0 ∧ WalkOk rs ps0 m0 ∧ m0.length ≤ 1000 := by
      match i, hv with
      | 0, hv => cases hv; exact ⟨e1, [], [], ps.take 1, rfl, SqT.of (s9 _ _ he8), .nil, by have := wk.take (n := 0) (Nat.zero_le _); exact this, Nat.zero_le _⟩
      | 1, hv => cases hv; exact ⟨rt1, _, _, _, rfl, Same.tup s69 la.hu1, paired_mono (fun _ _ z => z.mono s69) la.hm1, la.wk1, la.few1⟩
      | 2, hv => cases hv; exact ⟨rt, _, _, _, rfl, Same.tup s69 la.hu, paired_mono (fun _ _ z => z.mono s69) la.hm, la.wk, la.few⟩
      | n + 3, hv => cases hv
    show t_l1_4 g _ [some (.ref a), some (.ref pt), some (.ref wt), some (.ref rt1), some (.ref ev), some (.ref r0), p6] H'
    exact pure_l1_4 la s69 hu0 hm0 wk0 few0 fun H2 p6 s2 => ⟨_, _, rfl, s9.trans s2⟩
  · rintro σ H' ⟨p5, p6, rfl, s9⟩
    exact q H'
end Sd
/-! tuple * int for every count from 1 on, and for the empty tuple -/
namespace Sd
open PySem PySem.Spec PyProof.Rows L2
theorem tuple_mulS (l : Addr) (items : Array Value) (n : Nat) (dd : Option Addr) (sl : Array (Option Value)) (x : Int) (u : Tok) (c0 : (decide (x < -(2 ^ 63)) || decide (x ≥ 2 ^ 63)) = false) (c1 : (items.isEmpty || x == 1) = true) :
    Meets (Builtin.«tuple.__mul__» ⟨[.ref l, .int x u], []⟩) (fun _ R s => s.heap.get? l = some { cls := .type "tuple", dict := dd, data := .seq items n, slots := sl } ∧ R (.ok (.ret (Value.ref l))) s) :=
  .of_wp fun prog w A R s h => by
    obtain ⟨hp, g, d, tk, os⟩ := s
    obtain ⟨hl, h⟩ := h
    have f1 := AutoSeq1.idx_int
    wp_walk using wpAny_loadPart' hl
    repeat (first
      | (refine wpAny_ite_false (decide_eq_false (by rw [c0]; exact Bool.false_ne_true)) ?_; wp_walk using wpAny_loadPart' hl)
      | (refine wpAny_ite_true (decide_eq_true c1) ?_; wp_walk using wpAny_loadPart' hl))
    exact ⟨_, rfl, h⟩
def rRepA (K : PySem.W.Frag) : R2 := fun x y H Q => ∃ l k xs, x = .ref l ∧ y = .int k ∧ SqT K H l xs ∧ 1 ≤ k ∧ k ≤ 100000 ∧ xs.length * k.toNat ≤ 100000 ∧ (k = 1 ∨ xs = [] → Q (.ref l) H) ∧ (2 ≤ k → xs ≠ [] → ∀ p, H p = none → Q (.ref p) (upd H p (.tup (List.replicate k.toNat xs).flatten)))
section
variable {X : Cx}
theorem o_repA : OpR X (binaryOp .Mult) (rRepA X.K) := by
  intro pins s σ H x y v u Q I rx ry h
  obtain ⟨l, k, xs, rfl, rfl, hT, h1, h2, hz, q0, q1⟩ := h
  cases rx
  obtain ⟨t, rfl⟩ := ry
  obtain ⟨its, r, ⟨⟨cls, dd, data, sl⟩, ho, hc, n, hd⟩, hs⟩ := I.tuple hT
  simp only at hc hd
  subst hc hd
  have hle : its.length = xs.length := r.length.symm
  have c0 : (decide (k < -(2 ^ 63)) || decide (k ≥ 2 ^ 63)) = false := by
    rw [decide_eq_false (by omega), decide_eq_false (by omega)] <;> rfl
  by_cases same : k = 1 ∨ xs = []
  · have c1 : (its.toArray.isEmpty || k == 1) = true := by
      rcases same with e | e
      · rw [e]; simp
      · rw [e] at hle
        have : its = [] := List.eq_nil_of_length_eq_zero hle
        rw [this]; rfl
    refine wpAny_binaryOp_repeat_ref (T := "tuple") (U := "int") (by decide) ⟨_, ho, rfl⟩ (fun s' => typeIs_int s' k t) noFill_tuple_mul F.fills_int_mul F.slot_int_rmul repeat_tuple F.slot_int_index.lookup
      (call_meets F.slot_int_rmul (typeIs_int s k t) F.entry_int_rmul (F.args_int_rmul_2 _ _) (int_rmul_tuple k t l its.toArray n dd sl)
        ⟨ho, rfl, ⟨_, ho, rfl⟩, call_meets F.slot_tuple_mul ⟨_, ho, rfl⟩ F.entry_tuple_mul (F.args_tuple_mul_2 _ _) (tuple_mulS l its.toArray n dd sl k t c0 c1) ⟨ho, ?_⟩⟩)
    exact ⟨.ref l, H, I, rfl, q0 same⟩
  · have k2 : 2 ≤ k := by
      have : k ≠ 1 := fun e => same (.inl e)
      omega
    have hne : xs ≠ [] := fun e => same (.inr e)
    have hn : its ≠ [] := fun e => hne (by
      rw [e] at hle
      exact List.eq_nil_of_length_eq_zero hle.symm)
    have hi : its.toArray.isEmpty = false := by
      cases its with
      | nil => exact absurd rfl hn
      | cons a b => rfl
    have hsz0 : its.toArray.size = xs.length := by rw [List.size_toArray, hle]
    have hm : ((its.toArray.size : Nat) : Int) * k ≤ 1000000 := by
      rw [hsz0]
      have e : ((xs.length : Nat) : Int) * k = ((xs.length * k.toNat : Nat) : Int) := by rw [Int.natCast_mul, Int.toNat_of_nonneg (by omega)]
      rw [e]; omega
    have flen : (List.replicate k.toNat its).flatten.length ≤ sizeLine := by
      rw [PyProof.Rows.lm_len_rep_flat, hle, sizeLine_eq, Nat.mul_comm]
      omega
    have c1 : (its.toArray.isEmpty || k == 1) = false := by
      rw [hi, Bool.false_or]
      exact beq_eq_false_iff_ne.mpr (by omega)
    have c2 : (decide (k ≤ 0) || its.toArray.isEmpty) = false := by
      rw [hi, Bool.or_false]
      exact decide_eq_false (by omega)
    have c4 : Builtin.Tuple.tupleTooMany (((its.toArray.size : Nat) : Int) * k) = false := by
      unfold Builtin.Tuple.tupleTooMany
      rw [sizeLine_eq]
      exact decide_eq_false (by omega)
    refine wpAny_binaryOp_repeat_ref (T := "tuple") (U := "int") (by decide) ⟨_, ho, rfl⟩ (fun s' => typeIs_int s' k t) noFill_tuple_mul F.fills_int_mul F.slot_int_rmul repeat_tuple F.slot_int_index.lookup
      (call_meets F.slot_int_rmul (typeIs_int s k t) F.entry_int_rmul (F.args_int_rmul_2 _ _) (int_rmul_tuple k t l its.toArray n dd sl)
        ⟨ho, rfl, ⟨_, ho, rfl⟩, call_meets F.slot_tuple_mul ⟨_, ho, rfl⟩ F.entry_tuple_mul (F.args_tuple_mul_2 _ _) (tuple_mulW l its.toArray n dd sl k t c0 c1 c2 (by omega) c4 (by rw [size_rep, List.size_toArray]; exact flen)) ⟨ho, ?_⟩⟩)
    rw [size_rep]
    refine ⟨.ref s.heap.objs.size, _, I.laid (t' := s.toks) (o := .tup (List.replicate k.toNat xs).flatten) (fun b ob q => Heap.get?_push_of_some _ q) (Nat.le_refl _) ?_, rfl, q1 k2 hne _ (I.hok.fresh (Nat.le_refl _))⟩
    exact ⟨by rw [PyProof.Rows.lm_len_rep_flat, sizeLine_eq, Nat.mul_comm]; omega, _, r.rep k.toNat, IsTup.new _ _⟩
end
/-- t * k as a row of moves -/
theorem rep_tup {K : PySem.W.Frag} {H : Hp} {Q : VK} {l : Addr} {k : Nat} {xs : List V} (h : SqT K H l xs) (k1 : 1 ≤ k) (k2 : k ≤ 5000) (hz : xs.length * k ≤ 100000) (q : ∀ p H', Same H H' → SqT K H' p (List.replicate k xs).flatten → Q (.ref p) H') : rRepA K (.ref l) (.int k) H Q := by
  refine ⟨l, k, xs, rfl, rfl, h, by omega, by omega, by rw [Int.toNat_natCast]; exact hz, fun e => q l H (Same.refl H) ?_, fun _ _ p hp => ?_⟩
  · rcases e with e | e
    · have : k = 1 := by omega
      subst this
      simpa using h
    · subst e
      have : (List.replicate k ([] : List V)).flatten = [] := by simp
      rw [this]; exact h
  · rw [Int.toNat_natCast]
    exact q p _ (Same.new hp) (SqT.of upd_same)
end Sd
namespace Sd
open PySem PySem.Spec PyProof.Rows L2
/-! ### paths: where moves lead from a standing -/
def endP (rs : List Rw) : List Int → List Move → List Int
  | p, [] => p
  | p, m :: ms => endP rs (behindOf rs p m.2) ms
def plP (rs : List Rw) : List Int → List Move → List (List Int)
  | p, [] => [p]
  | p, m :: ms => p :: plP rs (behindOf rs p m.2) ms
def OkP (rs : List Rw) : List Int → List Move → Prop
  | _, [] => True
  | p, m :: ms => m ∈ movesOf rs p ∧ OkP rs (behindOf rs p m.2) ms
theorem endP_cons (rs : List Rw) (p : List Int) (m : Move) (ms : List Move) : endP rs p (m :: ms) = endP rs (behindOf rs p m.2) ms := rfl
theorem plP_cons (rs : List Rw) (p : List Int) (m : Move) (ms : List Move) : plP rs p (m :: ms) = p :: plP rs (behindOf rs p m.2) ms := rfl
theorem OkP_cons (rs : List Rw) (p : List Int) (m : Move) (ms : List Move) : OkP rs p (m :: ms) = (m ∈ movesOf rs p ∧ OkP rs (behindOf rs p m.2) ms) := rfl
theorem plP_len (rs : List Rw) : ∀ (ms : List Move) (p : List Int), (plP rs p ms).length = ms.length + 1
  | [], p => rfl
  | m :: ms, p => by unfold plP; rw [List.length_cons, plP_len rs ms, List.length_cons]
theorem plP_hd (rs : List Rw) (p : List Int) (ms : List Move) : (plP rs p ms)[0]? = some p := by cases ms <;> rfl
theorem plP_last (rs : List Rw) : ∀ (ms : List Move) (p : List Int), (plP rs p ms).getLast? = some (endP rs p ms)
  | [], p => rfl
  | m :: ms, p => by
    unfold plP endP
    rw [List.getLast?_cons, plP_last rs ms]; rfl
theorem endP_app (rs : List Rw) : ∀ (a b : List Move) (p : List Int), endP rs p (a ++ b) = endP rs (endP rs p a) b
  | [], b, p => rfl
  | m :: a, b, p => by
    rw [List.cons_append, endP_cons, endP_cons]
    exact endP_app rs a b _
theorem OkP_app (rs : List Rw) : ∀ (a b : List Move) (p : List Int), OkP rs p (a ++ b) ↔ OkP rs p a ∧ OkP rs (endP rs p a) b
  | [], b, p => ⟨fun h => ⟨trivial, h⟩, fun h => h.2⟩
  | m :: a, b, p => by
    rw [List.cons_append, OkP_cons, OkP_cons, endP_cons, OkP_app rs a b]
    exact and_assoc.symm
theorem plP_drop (rs : List Rw) : ∀ (a b : List Move) (p : List Int), (plP rs p (a ++ b)).drop a.length = plP rs (endP rs p a) b
  | [], b, p => rfl
  | m :: a, b, p => by
    rw [List.cons_append, plP_cons, endP_cons, List.length_cons, List.drop_succ_cons]
    exact plP_drop rs a b _
theorem mem_plP_app (rs : List Rw) (q : List Int) : ∀ (a b : List Move) (p : List Int), q ∈ plP rs p (a ++ b) ↔ q ∈ plP rs p a ∨ q ∈ plP rs (endP rs p a) b
  | [], b, p => by
    show q ∈ plP rs p b ↔ q ∈ [p] ∨ q ∈ plP rs p b
    refine ⟨.inr, fun h => h.elim (fun h => ?_) id⟩
    rw [List.mem_singleton.mp h]
    exact List.mem_of_getElem? (plP_hd rs p b)
  | m :: a, b, p => by
    rw [List.cons_append, plP_cons, plP_cons, endP_cons, List.mem_cons, List.mem_cons, mem_plP_app rs q a b, or_assoc]
theorem OkP.stand {rs : List Rw} : ∀ {ms : List Move} {p : List Int}, StandI rs p → OkP rs p ms → ∀ q ∈ plP rs p ms, StandI rs q
  | [], p, st, _, q, h => by rw [List.mem_singleton.mp h]; exact st
  | m :: ms, p, st, ok, q, h => by
    unfold plP at h
    rcases List.mem_cons.mp h with e | h
    · rw [e]; exact st
    · exact OkP.stand (stand_behind st (valid_of ok.1 st.len).2) ok.2 q h
theorem OkP.get {rs : List Rw} : ∀ {ms : List Move} {p : List Int} (k : Nat) (m : Move) (q : List Int), OkP rs p ms → ms[k]? = some m → (plP rs p ms)[k]? = some q → m ∈ movesOf rs q ∧ (plP rs p ms)[k + 1]? = some (behindOf rs q m.2)
  | [], p, k, m, q, _, h, _ => by simp at h
  | m0 :: ms, p, 0, m, q, ok, h, hq => by
    simp at h
    subst h
    unfold plP at hq ⊢
    simp at hq
    subst hq
    exact ⟨ok.1, by rw [List.getElem?_cons_succ]; exact plP_hd rs _ ms⟩
  | m0 :: ms, p, k + 1, m, q, ok, h, hq => by
    unfold plP at hq ⊢
    rw [List.getElem?_cons_succ] at h hq ⊢
    exact OkP.get k m q ok.2 h hq
def st0 (rs : List Rw) : List Int := rs.map (·.1)
theorem walk_of {rs : List Rw} {ms : List Move} (ok : OkP rs (st0 rs) ms) : WalkOk rs (plP rs (st0 rs) ms) ms :=
  ⟨plP_len rs ms _, ok.stand (stand_start rs), fun k m p hm hp => (ok.get k m p hm hp).1, plP_hd rs _ ms, fun k m p hm hp => (ok.get k m p hm hp).2⟩
theorem of_walk0 {rs : List Rw} : ∀ {ms : List Move} {ps : List (List Int)} {p : List Int}, ps.length = ms.length + 1 → ps[0]? = some p → (∀ (k : Nat) m q, ms[k]? = some m → ps[k]? = some q → m ∈ movesOf rs q) → (∀ (k : Nat) m q, ms[k]? = some m → ps[k]? = some q → ps[k + 1]? = some (behindOf rs q m.2)) → ps = plP rs p ms ∧ OkP rs p ms
  | [], ps, p, hl, h0, _, _ => by
    match ps, hl, h0 with
    | [a], _, h0 => simp at h0; rw [h0]; exact ⟨rfl, trivial⟩
  | m :: ms, ps, p, hl, h0, mv, nx => by
    match ps, hl, h0 with
    | a :: ps, hl, h0 =>
      simp at h0
      subst h0
      have h1 := nx 0 m a rfl rfl
      rw [List.getElem?_cons_succ] at h1
      obtain ⟨e, ok⟩ := of_walk0 (ms := ms) (ps := ps) (p := behindOf rs a m.2) (by simpa using hl) h1 (fun k m' q hm hq => mv (k + 1) m' q (by simpa using hm) (by simpa using hq)) fun k m' q hm hq => by
        have := nx (k + 1) m' q (by simpa using hm) (by simpa using hq)
        simpa using this
      exact ⟨by unfold plP; rw [← e], mv 0 m a rfl rfl, ok⟩
theorem WalkOk.path {rs : List Rw} {ps : List (List Int)} {ms : List Move} (h : WalkOk rs ps ms) : ps = plP rs (st0 rs) ms ∧ OkP rs (st0 rs) ms := of_walk0 h.len h.hd h.mv h.nx
/-! ### a loop that comes back, gone through again and again -/
def repM (n : Nat) (l : List Move) : List Move := (List.replicate n l).flatten
theorem repM_succ (n : Nat) (l : List Move) : repM (n + 1) l = l ++ repM n l := by unfold repM; rw [List.replicate_succ, List.flatten_cons]
theorem rep_ok {rs : List Rw} {p : List Int} {l : List Move} (ok : OkP rs p l) (e : endP rs p l = p) : ∀ n : Nat, OkP rs p (repM n l) ∧ endP rs p (repM n l) = p
  | 0 => ⟨trivial, rfl⟩
  | n + 1 => by
    obtain ⟨h1, h2⟩ := rep_ok ok e n
    rw [repM_succ, OkP_app, endP_app, e]
    exact ⟨⟨ok, h1⟩, h2⟩
theorem rep_mem {rs : List Rw} {p : List Int} {l : List Move} (e : endP rs p l = p) (q : List Int) : ∀ n : Nat, q ∈ plP rs p (repM (n + 1) l) ↔ q ∈ plP rs p l
  | 0 => by rw [repM_succ]; show q ∈ plP rs p (l ++ []) ↔ _; rw [List.append_nil]
  | n + 1 => by
    rw [repM_succ, mem_plP_app, e, rep_mem e q n]
    exact ⟨fun h => h.elim id id, .inl⟩
theorem takesB_app (a b : List Move) (h : Nat) : takesB (a ++ b) h = (takesB a h || takesB b h) := by unfold takesB; rw [List.any_append]
theorem rep_takes (l : List Move) (h : Nat) : ∀ n : Nat, takesB (repM (n + 1) l) h = takesB l h
  | 0 => by rw [repM_succ]; show takesB (l ++ []) h = _; rw [List.append_nil]
  | n + 1 => by rw [repM_succ, takesB_app, rep_takes l h n, Bool.or_self]
theorem fairB_congr {rs : List Rw} {ds : List Int} {A B : List (List Int)} {m1 m2 : List Move} (h : ∀ q, q ∈ A ↔ q ∈ B) (t : ∀ k, takesB m1 k = takesB m2 k) : fairB rs ds A m1 = fairB rs ds B m2 := by
  unfold fairB
  simp only [allAble_mem h, t]
theorem isFair_path {rs : List Rw} {ds : List Int} {a b : List Move} : isFairB rs ds ((plP rs (st0 rs) (a ++ b)).drop a.length) b = (decide (endP rs (endP rs (st0 rs) a) b = endP rs (st0 rs) a) && fairB rs ds (plP rs (endP rs (st0 rs) a) b) b) := by
  rw [plP_drop]
  unfold isFairB
  rw [plP_last, plP_hd]
  simp
/-- the loop b' from r goes the way of the loop b from p -/
structure SameLoop (rs : List Rw) (p : List Int) (b : List Move) (r : List Int) (b' : List Move) : Prop where
  ok : OkP rs r b'
  back : endP rs r b' = r
  mem : ∀ q, q ∈ plP rs r b' ↔ q ∈ plP rs p b
  tk : ∀ h, takesB b' h = takesB b h
theorem SameLoop.rep {rs : List Rw} {p : List Int} {b : List Move} (ok : OkP rs p b) (e : endP rs p b = p) (n : Nat) : SameLoop rs p b p (repM (n + 1) b) := ⟨(rep_ok ok e _).1, (rep_ok ok e _).2, fun q => rep_mem e q n, fun h => rep_takes b h n⟩
theorem SameLoop.turn {rs : List Rw} {p : List Int} {b : List Move} (ok : OkP rs p b) (e : endP rs p b = p) (t : Nat) : OkP rs p (b.take t) ∧ SameLoop rs p b (endP rs p (b.take t)) (b.drop t ++ b.take t) := by
  have eb : b.take t ++ b.drop t = b := List.take_append_drop t b
  have ok2 := (OkP_app rs (b.take t) (b.drop t) p).mp (by rw [eb]; exact ok)
  have e2 : endP rs (endP rs p (b.take t)) (b.drop t) = p := by rw [← endP_app, eb]; exact e
  refine ⟨ok2.1, (OkP_app rs _ _ _).mpr ⟨ok2.2, by rw [e2]; exact ok2.1⟩, by rw [endP_app, e2], fun q => ?_, fun h => ?_⟩
  · have m1 := mem_plP_app rs q (b.take t) (b.drop t) p
    rw [eb] at m1
    rw [mem_plP_app, e2, m1]
    exact or_comm
  · rw [takesB_app, Bool.or_comm, ← takesB_app, eb]
end Sd
namespace Sd
open PySem PySem.Spec PyProof.Rows L2
def rMax2 : List V → Hp → VK → Prop := fun xs H Q => ∃ i j : Int, xs = [.int i, .int j] ∧ Q (.int (if j > i then j else i)) H
def sp_law_flag (g : Ga) : Sp := fun vs H Q _ => ∃ b : Bool, vs = [.bl b, .bl b] ∧ Q (.bl true) H
def t_law_flag (g : Ga) : TS := (tRet (tAndV (tCB (rIsi g.K) (tCons (tVar 0) (tCons (tC (.ty "bool")) tNil))) (tOp rEq (tVar 0) (tVar 1))))
theorem pure_law_flag {g : Ga} {vs : List V} {H : Hp} {Q : VK} {E : XK} {N : List Str} (hN : N.length = 2) (h : sp_law_flag g vs H Q E) : t_law_flag g (endsQ Q) (L2.start N vs) H := by
  obtain ⟨b, rfl, q⟩ := h
  have e0 : L2.start N [.bl b, .bl b] = [some (.bl b), some (.bl b)] := by unfold L2.start; rw [hN]; rfl
  rw [e0]
  refine ⟨_, rfl, _, .ty "bool", _, _, true, rfl, .ty _, .base (.bl _), kb (by decide +kernel), true, rfl, iteT ⟨_, rfl, _, rfl, rfl, ?_⟩⟩
  rw [decide_eq_true rfl]
  exact q
/-- _law_flag(is_fair(system, stem, loop), due) where the loop goes the way of b -/
theorem flag_call {g : Ga} {H : Hp} {Q : VK} {E : XK} {σ : L2.St} {tA tB : TE} {x : Addr} {rs : List Rw} {ks : List Int} {us1 us2 : List V} {a' b' b : List Move} {p r : List Int} (h2 : σ[2]? = some (some (.ref x))) (h9 : σ[9]? = some (some (.bl (fairB rs ks (plP rs p b) b)))) (hx : SysAt g H x rs ks) (sm : SmallR rs) (kok : ∀ d ∈ ks, 0 ≤ d ∧ d < (rs.length : Int))
    (hA : ∀ Q : VK, (∀ z H', Same H H' → SqT g.K H' z us1 → Q (.ref z) H') → tA σ H Q) (hB : ∀ H1, Same H H1 → ∀ Q : VK, (∀ z H', Same H1 H' → SqT g.K H' z us2 → Q (.ref z) H') → tB σ H1 Q) (m1 : Paired (MoveAt g.K H) us1 a') (m2 : Paired (MoveAt g.K H) us2 b') (few : a'.length + b'.length ≤ 5000) (ok : OkP rs (st0 rs) a') (er : endP rs (st0 rs) a' = r) (sl : SameLoop rs p b r b') (q : ∀ H', Same H H' → Q (.bl true) H') :
    tCall (sp_law_flag g) [] E (tCons (tCall (sp_is_fair g) [] E0 (tCons (tVar 2) (tCons tA (tCons tB tNil)))) (tCons (tVar 9) tNil)) σ H Q := by
  refine ⟨_, h2, hA _ fun st H1 s1 hst => hB H1 s1 _ fun lo H2 s2 hlo => ?_⟩
  have s12 := s1.trans s2
  have okab : OkP rs (st0 rs) (a' ++ b') := (OkP_app rs a' b' _).mpr ⟨ok, by rw [er]; exact sl.ok⟩
  refine ⟨x, st, lo, rs, ks, us1, us2, a', b', plP rs (st0 rs) (a' ++ b'), rfl, hx.mono s12, sm, kok, Same.tup s2 hst, hlo, paired_mono (fun _ _ z => z.mono s12) m1, paired_mono (fun _ _ z => z.mono s12) m2, walk_of okab, by rw [List.length_append]; exact few, fun H3 s3 => ?_⟩
  rw [isFair_path, er, sl.back, decide_eq_true rfl, Bool.true_and, fairB_congr sl.mem sl.tk]
  exact ⟨_, h9, _, rfl, q H3 (s12.trans s3)⟩
def sp_k22_law (g : Ga) : Sp := fun vs H Q _ => ∃ (a : Addr) (ns : List Int), vs = [.ref a] ∧ SqL g.K H a (ns.map V.int) ∧ ns.length ≤ 63 ∧ ∀ H', Q (.bl true) H'
def t_k22_8 (g : Ga) : TS := (tSeq (tIfS (tNot (tB (tCall (sp_law_flag g) [] E0 (tCons (tCall (sp_is_fair g) [] E0 (tCons (tVar 2) (tCons (tOp (rCatA g.K) (tVar 7) (tOp (rRepA g.K) (tVar 8) (tVar 11))) (tCons (tOp (rRepA g.K) (tVar 8) (tVar 11)) tNil)))) (tCons (tVar 9) tNil))))) (tRet (tC (.bl false))) tNext) (tSeq (tIfS (tNot (tB (tCall (sp_law_flag g) [] E0 (tCons (tCall (sp_is_fair g) [] E0 (tCons (tVar 2) (tCons (tVar 7) (tCons (tVar 8) tNil)))) (tCons (tVar 9) tNil))))) (tRet (tC (.bl false))) tNext) (tSeq (tIfS (tNot (tB (tCall (sp_law_flag g) [] E0 (tCons (tCall (sp_is_fair g) [] E0 (tCons (tVar 2) (tCons (tOp (rCatA g.K) (tVar 7) (tVar 8)) (tCons (tVar 8) tNil)))) (tCons (tVar 9) tNil))))) (tRet (tC (.bl false))) tNext) (tSeq (tIfS (tNot (tB (tCall (sp_law_flag g) [] E0 (tCons (tCall (sp_is_fair g) [] E0 (tCons (tVar 2) (tCons (tVar 7) (tCons (tOp (rCatA g.K) (tVar 8) (tVar 8)) tNil)))) (tCons (tVar 9) tNil))))) (tRet (tC (.bl false))) tNext) (tSeq (tIfS (tNot (tB (tCall (sp_law_flag g) [] E0 (tCons (tCall (sp_is_fair g) [] E0 (tCons (tVar 2) (tCons (tVar 7) (tCons (tOp (rRepA g.K) (tVar 8) (tC (.int 3))) tNil)))) (tCons (tVar 9) tNil))))) (tRet (tC (.bl false))) tNext) (tIfS (tNot (tB (tCall (sp_law_flag g) [] E0 (tCons (tCall (sp_is_fair g) [] E0 (tCons (tVar 2) (tCons (tOp (rCatA g.K) (tVar 7) (tSl (rSlA g.K) (tVar 8) tNoPart (tPart (tVar 10)))) (tCons (tOp (rCatA g.K) (tSl (rSlA g.K) (tVar 8) (tPart (tVar 10)) tNoPart) (tSl (rSlA g.K) (tVar 8) tNoPart (tPart (tVar 10)))) tNil)))) (tCons (tVar 9) tNil))))) (tRet (tC (.bl false))) tNext))))))
def t_k22_7 (g : Ga) : TS := (tSeq (tAsg (tOp rAdd (tC (.int 1)) (tOp rDiv (tOp rMul (tC (.int 1100)) (tCB rInt1 (tCons (tOp rEq (tCall (sp_law_draw g) [] E0 (tCons (tVar 4) (tCons (tC (.int 6)) tNil))) (tC (.int 0))) tNil))) (tCB rMax2 (tCons (tC (.int 1)) (tCons (tCB (rLenS g.K) (tCons (tVar 8) tNil)) tNil))))) (gName 11)) (t_k22_8 g))
def t_k22_6 (g : Ga) : TS := (tSeq (tAsg (tCall (sp_law_draw g) [] E0 (tCons (tVar 4) (tCons (tOp rAdd (tCB (rLenS g.K) (tCons (tVar 8) tNil)) (tC (.int 1))) tNil))) (gName 10)) (t_k22_7 g))
def t_k22_5 (g : Ga) : TS := (tSeq (tAsg (tCall (sp_law_fair g) [] E0 (tCons (tOp (rIxT g.K) (tVar 1) (tC (.int 0))) (tCons (tOp (rIxT g.K) (tVar 1) (tC (.int 1))) (tCons (tCall (sp_law_once g) [] E0 (tCons (tSl (rSlL g.K) (tOp (rIxT g.K) (tVar 3) (tC (.int 1))) (tPart (tOp (rIxT g.K) (tVar 6) (tC (.int 0)))) (tPart (tOp rAdd (tOp (rIxT g.K) (tVar 6) (tC (.int 1))) (tC (.int 1))))) tNil)) (tCons (tVar 8) tNil))))) (gName 9)) (t_k22_6 g))
def t_k22_4 (g : Ga) : TS := (tSeq (tAsg (tSl (rSlA g.K) (tOp (rIxT g.K) (tVar 3) (tC (.int 0))) (tPart (tOp (rIxT g.K) (tVar 6) (tC (.int 0)))) (tPart (tOp (rIxT g.K) (tVar 6) (tC (.int 1))))) (gName 8)) (t_k22_5 g))
def t_k22_3 (g : Ga) : TS := (tSeq (tAsg (tSl (rSlA g.K) (tOp (rIxT g.K) (tVar 3) (tC (.int 0))) tNoPart (tPart (tOp (rIxT g.K) (tVar 6) (tC (.int 0))))) (gName 7)) (t_k22_4 g))
def t_k22_2 (g : Ga) : TS := (tSeq (tAsg (tCall (sp_law_cut g) [] E0 (tCons (tVar 4) (tCons (tVar 3) tNil))) (gName 6)) (t_k22_3 g))
def t_k22_1 (g : Ga) : TS := (tSeq (tFor (iRng1 (tCons (tC (.int 3)) tNil)) (gName 5) (t_k22_2 g)) (tRet (tC (.bl true))))
def t_k22_law (g : Ga) : TS := (tSeq (tAsg (tCall (sp_law_rows g) [] E0 (tCons (tVar 0) (tCons (tC (.int 3)) (tCons (tC (.int 4)) (tCons (tC (.int 3)) (tCons (tC (.int 4)) tNil)))))) (gName 1)) (tSeq (tAsg (tCall (sp_law_system g) [] E0 (tCons (tOp (rIxT g.K) (tVar 1) (tC (.int 0))) (tCons (tOp (rIxT g.K) (tVar 1) (tC (.int 1))) tNil))) (gName 2)) (tSeq (tAsg (tCall (sp_law_walk g) [] E0 (tCons (tOp (rIxT g.K) (tVar 1) (tC (.int 0))) (tCons (tSl (rSlL g.K) (tVar 0) (tPart (tC (.int 5))) (tPart (tC (.int 35)))) tNil))) (gName 3)) (tSeq (tAsg (tCall (sp_law_pool g) [] E0 (tCons (tCall (sp_law_cell g) [] E0 (tCons (tVar 0) (tCons (tC (.int 4)) tNil))) tNil)) (gName 4)) (t_k22_1 g)))))
theorem paired_rep {K : PySem.W.Frag} {H : Hp} {us : List V} {ms : List Move} (h : Paired (MoveAt K H) us ms) : ∀ n : Nat, Paired (MoveAt K H) (List.replicate n us).flatten (repM n ms)
  | 0 => .nil
  | n + 1 => by
    unfold repM
    rw [List.replicate_succ, List.replicate_succ, List.flatten_cons, List.flatten_cons]
    exact paired_app h (paired_rep h n)
theorem repM_len (n : Nat) (l : List Move) : (repM n l).length = n * l.length := by
  unfold repM
  simp
theorem sl_from {K : PySem.W.Frag} {σ : L2.St} {H : Hp} {Q : VK} {i j t : Nat} {lo : Addr} {us : List V} (h1 : σ[i]? = some (some (.ref lo))) (h2 : σ[j]? = some (some (.int (t : Int)))) (hlo : SqT K H lo us) (ht : t ≤ us.length) (q : ∀ p H', Same H H' → SqT K H' p (us.drop t) → Q (.ref p) H') : tSl (rSlA K) (tVar i) (tPart (tVar j)) tNoPart σ H Q := by
  refine ⟨_, h1, _, h2, _, rfl, ?_⟩
  show rSlA K (.ref lo) (some (t : Int)) none H Q
  refine sl_tup hlo fun p H' s' hp => q p H' s' ?_
  rw [cutV_from ht] at hp; exact hp
theorem sl_to {K : PySem.W.Frag} {σ : L2.St} {H : Hp} {Q : VK} {i j t : Nat} {lo : Addr} {us : List V} (h1 : σ[i]? = some (some (.ref lo))) (h2 : σ[j]? = some (some (.int (t : Int)))) (hlo : SqT K H lo us) (ht : t ≤ us.length) (q : ∀ p H', Same H H' → SqT K H' p (us.take t) → Q (.ref p) H') : tSl (rSlA K) (tVar i) tNoPart (tPart (tVar j)) σ H Q := by
  refine ⟨_, h1, _, h2, _, rfl, ?_⟩
  show rSlA K (.ref lo) none (some (t : Int)) H Q
  refine sl_tup hlo fun p H' s' hp => q p H' s' ?_
  rw [cutV_to ht] at hp; exact hp
/-- the six forms of one run -/
theorem pure_k22_8 {g : Ga} {D : Ends} {H : Hp} {p0 p1 p3 p4 p5 p6 : Option V} {x st lo : Addr} {rs : List Rw} {ks : List Int} {us1 us2 : List V} {a b : List Move} {p : List Int} {t n : Nat} (hx : SysAt g H x rs ks) (sm : SmallR rs) (kok : ∀ d ∈ ks, 0 ≤ d ∧ d < (rs.length : Int)) (hst : SqT g.K H st us1) (hlo : SqT g.K H lo us2) (m1 : Paired (MoveAt g.K H) us1 a) (m2 : Paired (MoveAt g.K H) us2 b) (fa : a.length ≤ 400) (fb : b.length ≤ 400) (oka : OkP rs (st0 rs) a) (ep : endP rs (st0 rs) a = p) (okb : OkP rs p b) (back : endP rs p b = p) (tb : t ≤ b.length) (n2 : n ≤ 1100) (bn : b.length * (n + 1) ≤ 2000)
    (q : ∀ H', Same H H' → D.nx [p0, p1, some (.ref x), p3, p4, p5, p6, some (.ref st), some (.ref lo), some (.bl (fairB rs ks (plP rs p b) b)), some (.int (t : Int)), some (.int ((n + 1 : Nat) : Int))] H') :
    t_k22_8 g D [p0, p1, some (.ref x), p3, p4, p5, p6, some (.ref st), some (.ref lo), some (.bl (fairB rs ks (plP rs p b) b)), some (.int (t : Int)), some (.int ((n + 1 : Nat) : Int))] H := by
  have lu1 := m1.length
  have lu2 := m2.length
  have back1 : SameLoop rs p b p b := ⟨okb, back, fun _ => Iff.rfl, fun _ => rfl⟩
  have sl1 := SameLoop.rep okb back n
  obtain ⟨okn, epn⟩ := rep_ok okb back (n + 1)
  have ln := repM_len (n + 1) b
  have fl : (List.replicate (n + 1) us2).flatten.length ≤ 5000 := by
    have := (paired_rep m2 (n + 1)).length
    rw [this, ln, Nat.mul_comm]; omega
  -- stem + loop * many, loop * many
  refine s_nif (flag_call (a' := a ++ repM (n + 1) b) (b' := repM (n + 1) b) rfl rfl hx sm kok (fun Q q => ⟨_, rfl, _, rfl, _, rfl, rep_tup hlo (by omega) (by omega) (by rw [lu2]; omega) fun z H1 s1 hz => cat_tup (Same.tup s1 hst) hz (by omega) fun y H2 s2 hy => q y H2 (s1.trans s2) hy⟩) (fun H1 s1 Q q => ⟨_, rfl, _, rfl, rep_tup (Same.tup s1 hlo) (by omega) (by omega) (by rw [lu2]; omega) q⟩) (paired_app m1 (paired_rep m2 _)) (paired_rep m2 _) (by rw [List.length_append, ln, Nat.mul_comm]; omega) ((OkP_app rs _ _ _).mpr ⟨oka, by rw [ep]; exact okn⟩) (by rw [endP_app, ep]; exact epn) sl1 fun H1 s1 => ⟨true, rfl, iteF ?_⟩)
  -- stem, loop
  refine s_nif (flag_call (a' := a) (b' := b) rfl rfl (hx.mono s1) sm kok (fun Q q => ⟨_, rfl, q _ _ (Same.refl _) (Same.tup s1 hst)⟩) (fun H2 s2 Q q => ⟨_, rfl, q _ _ (Same.refl _) (Same.tup (s1.trans s2) hlo)⟩) (paired_mono (fun _ _ z => z.mono s1) m1) (paired_mono (fun _ _ z => z.mono s1) m2) (by omega) oka ep back1 fun H2 s2 => ⟨true, rfl, iteF ?_⟩)
  have s02 := s1.trans s2
  -- stem + loop, loop
  refine s_nif (flag_call (a' := a ++ b) (b' := b) rfl rfl (hx.mono s02) sm kok (fun Q q => ⟨_, rfl, _, rfl, cat_tup (Same.tup s02 hst) (Same.tup s02 hlo) (by omega) q⟩) (fun H3 s3 Q q => ⟨_, rfl, q _ _ (Same.refl _) (Same.tup (s02.trans s3) hlo)⟩) (paired_mono (fun _ _ z => z.mono s02) (paired_app m1 m2)) (paired_mono (fun _ _ z => z.mono s02) m2) (by rw [List.length_append]; omega) ((OkP_app rs _ _ _).mpr ⟨oka, by rw [ep]; exact okb⟩) (by rw [endP_app, ep]; exact back) back1 fun H3 s3 => ⟨true, rfl, iteF ?_⟩)
  have s03 := s02.trans s3
  -- stem, loop + loop
  have sl2 : SameLoop rs p b p (b ++ b) := by
    have := SameLoop.rep okb back 1
    rw [repM_succ, repM_succ] at this
    have e : repM 0 b = [] := rfl
    rw [e, List.append_nil] at this
    exact this
  refine s_nif (flag_call (a' := a) (b' := b ++ b) rfl rfl (hx.mono s03) sm kok (fun Q q => ⟨_, rfl, q _ _ (Same.refl _) (Same.tup s03 hst)⟩) (fun H4 s4 Q q => ⟨_, rfl, _, rfl, cat_tup (Same.tup (s03.trans s4) hlo) (Same.tup (s03.trans s4) hlo) (by omega) q⟩) (paired_mono (fun _ _ z => z.mono s03) m1) (paired_mono (fun _ _ z => z.mono s03) (paired_app m2 m2)) (by rw [List.length_append]; omega) oka ep sl2 fun H4 s4 => ⟨true, rfl, iteF ?_⟩)
  have s04 := s03.trans s4
  -- stem, loop * 3
  have l3 := repM_len 3 b
  refine s_nif (flag_call (a' := a) (b' := repM 3 b) rfl rfl (hx.mono s04) sm kok (fun Q q => ⟨_, rfl, q _ _ (Same.refl _) (Same.tup s04 hst)⟩) (fun H5 s5 Q q => ⟨_, rfl, rep_tup (k := 3) (Same.tup (s04.trans s5) hlo) (by omega) (by omega) (by omega) q⟩) (paired_mono (fun _ _ z => z.mono s04) m1) (paired_mono (fun _ _ z => z.mono s04) (paired_rep m2 3)) (by omega) oka ep (SameLoop.rep okb back 2) fun H5 s5 => ⟨true, rfl, iteF ?_⟩)
  have s05 := s04.trans s5
  -- the loop turned
  obtain ⟨okt, slt⟩ := SameLoop.turn okb back t
  have ltk : (us2.take t).length ≤ 400 := by rw [List.length_take]; omega
  have ldr : (us2.drop t).length ≤ 400 := by rw [List.length_drop]; omega
  refine s_nif1 (flag_call (a' := a ++ b.take t) (b' := b.drop t ++ b.take t) rfl rfl (hx.mono s05) sm kok (fun Q q => ⟨_, rfl, sl_to rfl rfl (Same.tup s05 hlo) (by omega) fun z H6 s6 hz => cat_tup (Same.tup (s05.trans s6) hst) hz (by omega) fun y H7 s7 hy => q y H7 (s6.trans s7) hy⟩) (fun H6 s6 Q q => e_op (sl_from rfl rfl (Same.tup (s05.trans s6) hlo) (by omega) fun z H7 s7 hz => sl_to rfl rfl (Same.tup (s05.trans (s6.trans s7)) hlo) (by omega) fun y H8 s8 hy => cat_tup (Same.tup s8 hz) hy (by omega) fun w H9 s9 hw => q w H9 (s7.trans (s8.trans s9)) hw)) (paired_mono (fun _ _ z => z.mono s05) (paired_app m1 (paired_take t m2))) (paired_mono (fun _ _ z => z.mono s05) (paired_app (paired_drop t m2) (paired_take t m2))) (by rw [List.length_append, List.length_append, List.length_take, List.length_drop]; omega) ((OkP_app rs _ _ _).mpr ⟨oka, by rw [ep]; exact okt⟩) (by rw [endP_app, ep]) slt fun H6 s6 => ⟨true, rfl, iteF (q H6 (s05.trans s6))⟩)
theorem many_ok {d : Int} {L : Nat} : ∃ n : Nat, (1 : Int) + 1100 * (if decide (V.int d = V.int 0) = true then 1 else 0) / (if (L : Int) > 1 then (L : Int) else 1) = ((n + 1 : Nat) : Int) ∧ n ≤ 1100 ∧ L * (n + 1) ≤ L + 1100 := by
  generalize he : (if decide (V.int d = V.int 0) = true then (1 : Int) else 0) = e
  have e0 : 0 ≤ e ∧ e ≤ 1 := by rw [← he]; split <;> omega
  generalize hM : (if (L : Int) > 1 then (L : Int) else 1) = M
  have M1 : 1 ≤ M ∧ (L : Int) ≤ M := by rw [← hM]; split <;> omega
  have q0 : 0 ≤ 1100 * e / M := Int.ediv_nonneg (by omega) (by omega)
  obtain ⟨n, hn⟩ := Int.eq_ofNat_of_zero_le q0
  have q1 : M * (1100 * e / M) ≤ 1100 * e := Int.mul_ediv_self_le (by omega)
  rw [hn] at q1
  have q2 : (n : Int) ≤ M * n := by
    have := Int.mul_le_mul_of_nonneg_right M1.1 (Int.natCast_nonneg n)
    omega
  have q3 : (L : Int) * n ≤ M * n := Int.mul_le_mul_of_nonneg_right M1.2 (Int.natCast_nonneg n)
  refine ⟨n, by rw [hn]; omega, by omega, ?_⟩
  rw [Nat.mul_succ]
  have : ((L * n : Nat) : Int) ≤ 1100 := by rw [Int.natCast_mul]; omega
  omega
theorem pure_k22_2 {g : Ga} {B H : Hp} {D : Ends} {p0 p5 p6 p7 p8 p9 p10 p11 : Option V} {pp pt rl cl x wt rt pl : Addr} {o : HO} {rs : List Rw} {ks : List Int} {us xs : List V} {ms : List Move} {ps : List (List Int)} (h : RunB g B pt rl cl x wt rt pl rs ks us xs ms ps) (f400 : ms.length ≤ 400) (s : Same B H) (npp : B pp = none) (hpp : H pp = some o) (po : PoolO o)
    (q : ∀ H' o' p6 p7 p8 p9 p10 p11, Same B H' → H' pp = some o' → PoolO o' → D.nx [p0, some (.ref pt), some (.ref x), some (.ref wt), some (.ref pp), p5, p6, p7, p8, p9, p10, p11] H') :
    t_k22_2 g D [p0, some (.ref pt), some (.ref x), some (.ref wt), some (.ref pp), p5, p6, p7, p8, p9, p10, p11] H := by
  have wl := h.wk.len
  have lu := h.hm.length
  have lx := h.hs.length
  have big : (10000 : Int) ≤ 26 ^ 12 := by decide
  have npl : pl ≠ pp := fun z => by rw [← z, h.hp] at npp; cases npp
  refine ⟨_, rfl, _, rfl, pp, wt, rt, pl, o, xs, ps, rfl, hpp, po, s _ _ h.hwt, s _ _ h.hp, npl, paired_mono (fun _ _ z => z.mono s) h.hs, by omega, by omega, fun t f l o1 H1 ch hp1 po1 ht fl lp back => ?_⟩
  have s1 := Same.ch s npp ch
  show t_k22_3 g D [p0, some (.ref pt), some (.ref x), some (.ref wt), some (.ref pp), p5, some (.ref t), p7, p8, p9, p10, p11] H1
  refine ⟨_, rfl, wt, _, _, .ref rt, rfl, rfl, SqT.of (s1 _ _ h.hwt), rfl, _, rfl, t, _, _, .int f, rfl, rfl, SqT.of ht, rfl, _, rfl, sl_tup (Same.tup s1 h.hu) fun st H2 s2 hst => ?_⟩
  rw [cutV_to (by omega)] at hst
  have s02 := s1.trans s2
  have ht2 := s2 _ _ ht
  show t_k22_4 g D [p0, some (.ref pt), some (.ref x), some (.ref wt), some (.ref pp), p5, some (.ref t), some (.ref st), p8, p9, p10, p11] H2
  refine ⟨_, rfl, wt, _, _, .ref rt, rfl, rfl, SqT.of (s02 _ _ h.hwt), rfl, _, rfl, t, _, _, .int f, rfl, rfl, SqT.of ht2, rfl, _, rfl, _, rfl, t, _, _, .int l, rfl, rfl, SqT.of ht2, rfl, _, rfl, sl_tup (Same.tup s02 h.hu) fun lo H3 s3 hlo => ?_⟩
  rw [cutV_slice (by omega) fl] at hlo
  have s03 := s02.trans s3
  have ht3 := s3 _ _ ht2
  -- the path
  obtain ⟨eps, okms⟩ := h.wk.path
  have em : ms.take f ++ (ms.drop f).take (l - f) = ms.take l := by
    have := List.take_add (l := ms) (i := f) (j := l - f)
    rw [show f + (l - f) = l by omega] at this
    exact this.symm
  obtain ⟨epl, okl⟩ := (h.wk.take (n := l) (by omega)).path
  rw [← em] at okl epl
  obtain ⟨oka, okb⟩ := (OkP_app rs _ _ _).mp okl
  have lf : (ms.take f).length = f := by rw [List.length_take]; omega
  have eaps : (ps.drop f).take (l + 1 - f) = plP rs (endP rs (st0 rs) (ms.take f)) ((ms.drop f).take (l - f)) := by
    rw [← plP_drop, ← epl, lf]
    exact List.drop_take.symm
  have bk : endP rs (endP rs (st0 rs) (ms.take f)) ((ms.drop f).take (l - f)) = endP rs (st0 rs) (ms.take f) := by
    have := slice_back fl lp back
    rw [eaps, plP_last, plP_hd] at this
    exact Option.some.inj this
  have la : (ms.take f).length ≤ 400 := by omega
  have lb : ((ms.drop f).take (l - f)).length ≤ 400 := by rw [List.length_take, List.length_drop]; omega
  have m1 := paired_mono (F := MoveAt g.K B) (fun _ _ z => z.mono s03) (paired_take f h.hm)
  have m2 := paired_mono (F := MoveAt g.K B) (fun _ _ z => z.mono s03) (paired_take (l - f) (paired_drop f h.hm))
  have lenM : ∀ m ∈ (ms.drop f).take (l - f), m.2.length = rs.length := fun m hm => h.wk.mlen m (List.mem_of_mem_drop (List.mem_of_mem_take hm))
  have pok : ∀ p ∈ (ps.drop f).take (l + 1 - f), p.length = rs.length := fun p hp => (h.wk.st p (List.mem_of_mem_drop (List.mem_of_mem_take hp))).len
  rw [eaps] at pok
  generalize hb : (ms.drop f).take (l - f) = b at okb eaps bk lb m2 lenM pok
  generalize ha : ms.take f = a at oka okb eaps bk la m1 pok
  generalize hp : endP rs (st0 rs) a = p at okb eaps bk pok
  generalize hv1 : us.take f = us1 at hst m1
  generalize hv2 : (us.drop f).take (l - f) = us2 at hlo m2
  have hst3 := Same.tup s3 hst
  have l2 := m2.length
  show t_k22_5 g D [p0, some (.ref pt), some (.ref x), some (.ref wt), some (.ref pp), p5, some (.ref t), some (.ref st), some (.ref lo), p9, p10, p11] H3
  refine ⟨_, rfl, pt, _, _, .ref rl, rfl, rfl, SqT.of (s03 _ _ h.hpt), rfl, _, rfl, pt, _, _, .ref cl, rfl, rfl, SqT.of (s03 _ _ h.hpt), rfl, _, rfl, wt, _, _, .ref pl, rfl, rfl, SqT.of (s03 _ _ h.hwt), rfl, _, rfl, t, _, _, .int f, rfl, rfl, SqT.of ht3, rfl, _, rfl, _, rfl, t, _, _, .int l, rfl, rfl, SqT.of ht3, rfl, _, _, rfl, rfl, _, rfl, pl, xs, rfl, SqL.of (s03 _ _ h.hp), fun np hnp => ?_⟩
  have el : (l : Int) + 1 = ((l + 1 : Nat) : Int) := by omega
  have s4 : Same H3 (upd H3 np (.lst (cutV xs (some (f : Int)) (some ((l : Int) + 1))))) := Same.new hnp
  have s04 := s03.trans s4
  refine ⟨np, (xs.drop f).take (l + 1 - f), plP rs p b, rfl, by rw [upd_same, el, cutV_slice (by omega) (by omega)], by rw [← eaps]; exact paired_mono (fun _ _ z => z.mono s04) (paired_take _ (paired_drop f h.hs)), by rw [plP_len]; omega, fun on oy oq H5 s5 non hon hoq mem => ?_⟩
  have s05 := s04.trans s5
  have s35 := s4.trans s5
  refine ⟨_, rfl, rl, cl, on, lo, rs, ks, oy, us2, oq, b, rfl, h.hr.mono s05, h.sm, h.r24, s05 _ _ h.hcl, h.kok, hon, hoq, fun p' hp' => pok p' ((mem p').mp hp'), Same.tup s35 hlo, paired_mono (fun _ _ z => z.mono s35) m2, lenM, by omega, fun H6 s6 => ?_⟩
  have efb : fairB rs ks oq b = fairB rs ks (plP rs p b) b := by unfold fairB; simp only [allAble_mem mem]
  rw [efb]
  have s06 := s05.trans s6
  have s36 := s35.trans s6
  have hp6 : H6 pp = some o1 := s36 _ _ (s3 _ _ (s2 _ _ hp1))
  show t_k22_6 g D [p0, some (.ref pt), some (.ref x), some (.ref wt), some (.ref pp), p5, some (.ref t), some (.ref st), some (.ref lo), some (.bl (fairB rs ks (plP rs p b) b)), p10, p11] H6
  refine ⟨_, rfl, _, rfl, lo, us2, rfl, .inr (Same.tup s36 hlo), _, _, rfl, rfl, pp, o1, _, rfl, hp6, po1, by omega, by omega, fun d o2 d0 d1 po2 => ?_⟩
  obtain ⟨tn, rfl⟩ := Int.eq_ofNat_of_zero_le d0
  show t_k22_7 g D [p0, some (.ref pt), some (.ref x), some (.ref wt), some (.ref pp), p5, some (.ref t), some (.ref st), some (.ref lo), some (.bl (fairB rs ks (plP rs p b) b)), some (.int (tn : Int)), p11] (upd H6 pp o2)
  obtain ⟨ys1, rfl⟩ := pool_lst po1
  obtain ⟨ys2, rfl⟩ := pool_lst po2
  have nt : ∀ {ys : List V}, (∀ zs, HO.lst ys ≠ .tup zs) ∧ ∀ v w, HO.lst ys ≠ .frz v w := lst_nt
  refine ⟨_, rfl, pp, _, 6, rfl, upd_same, po2, by decide, by decide, fun d3 o3 _ _ po3 => ⟨rfl, .inr ⟨_, rfl, _, _, rfl, rfl, ?_, ?_⟩⟩⟩
  · exact .inl ⟨by decide, by decide⟩
  rw [upd_upd]
  have s7 : Same B (upd H6 pp o3) := Same.own s06 npp
  have hst7 : SqT g.K (upd H6 pp o3) st us1 := sqT_upd hp6 nt.1 nt.2 (Same.tup s36 hst3)
  have hlo7 : SqT g.K (upd H6 pp o3) lo us2 := sqT_upd hp6 nt.1 nt.2 (Same.tup s36 hlo)
  have m17 : Paired (MoveAt g.K (upd H6 pp o3)) us1 a := paired_mono (fun _ _ z => (z.mono s36).upd hp6) m1
  have m27 : Paired (MoveAt g.K (upd H6 pp o3)) us2 b := paired_mono (fun _ _ z => (z.mono s36).upd hp6) m2
  have hp7 : (upd H6 pp o3) pp = some o3 := upd_same
  generalize upd H6 pp o3 = H7 at s7 hst7 hlo7 m17 m27 hp7
  obtain ⟨n, en, n11, bn⟩ := many_ok (d := d3) (L := us2.length)
  refine ⟨_, rfl, lo, us2, rfl, .inr hlo7, _, _, rfl, _, _, rfl, rfl, ?_, _, _, rfl, rfl, ?_⟩
  · have hM : 1 ≤ (if (us2.length : Int) > 1 then (us2.length : Int) else 1) ∧ (if (us2.length : Int) > 1 then (us2.length : Int) else 1) ≤ 1000 := by split <;> omega
    exact ⟨by omega, Nat.lt_of_le_of_lt (Nat.log2_le_self _) (by omega)⟩
  · show t_k22_8 g D [p0, some (.ref pt), some (.ref x), some (.ref wt), some (.ref pp), p5, some (.ref t), some (.ref st), some (.ref lo), some (.bl (fairB rs ks (plP rs p b) b)), some (.int (tn : Int)), some (.int (1 + 1100 * (if decide (V.int d3 = V.int 0) = true then 1 else 0) / (if (us2.length : Int) > 1 then (us2.length : Int) else 1)))] H7
    rw [en]
    exact pure_k22_8 (h.hx.mono s7) h.sm h.kok hst7 hlo7 m17 m27 la lb oka hp okb bk (by omega) n11 (by rw [← l2]; omega) fun H8 s8 => q H8 o3 _ _ _ _ _ _ (s7.trans s8) (s8 _ _ hp7) po3
theorem pure_k22_law {g : Ga} {vs : List V} {H : Hp} {Q : VK} {E : XK} {N : List Str} (hN : N.length = 12) (h : sp_k22_law g vs H Q E) : t_k22_law g (endsQ Q) (L2.start N vs) H := by
  obtain ⟨a, ns, rfl, ha, n63, q⟩ := h
  have e0 : L2.start N [.ref a] = [some (.ref a), none, none, none, none, none, none, none, none, none, none, none] := by unfold L2.start; rw [hN]; rfl
  rw [e0]
  refine ⟨_, rfl, a, ns, 3, 4, 3, 4, rfl, ha, by decide, by decide, by decide, by decide, by decide, by decide, by decide, by decide, fun pt rl cl rs ks zs H1 s1 npt nrl ncl hpt hr hcl dr => ?_⟩
  have sm := dr.small (by decide) (by decide)
  have r24 : ∀ r ∈ rs, r.2.length ≤ 24 := fun r h => (dr.ok r h).l2
  refine ⟨_, rfl, pt, _, _, .ref rl, rfl, rfl, SqT.of hpt, rfl, _, rfl, pt, _, _, .ref cl, rfl, rfl, SqT.of hpt, rfl, rl, cl, rs, ks, rfl, hr, hcl, dr.sys (by decide) (by decide) (by decide), fun x H2 s2 nx hx => ?_⟩
  obtain ⟨cs, ecs, lcs⟩ := cut_ints ns (some 5) (some 35)
  refine ⟨_, rfl, pt, _, _, .ref rl, rfl, rfl, SqT.of (s2 _ _ hpt), rfl, _, rfl, _, rfl, _, rfl, a, _, rfl, (s1.trans s2).seq ha, fun c hc => ?_⟩
  have s3 : Same H2 (upd H2 c (.lst (cutV (ns.map V.int) (some 5) (some 35)))) := Same.new hc
  refine ⟨rl, c, rs, cs, rfl, hr.mono (s2.trans s3), SqL.of (by rw [upd_same, ecs]), by omega, sm, r24, fun t rt pl us xs ms ps H4 s4 ht hu hm hp hs wk ml => ?_⟩
  have s24 := s3.trans s4
  have rb : RunB g H4 pt rl cl x t rt pl rs ks us xs ms ps := ⟨s24 _ _ (s2 _ _ hpt), hr.mono (s2.trans s24), (s2.trans s24) _ _ hcl, hx.mono s24, sm, r24, dr.rng, ht, hu, hm, hp, hs, wk, by omega⟩
  refine ⟨_, rfl, a, ns, 4, rfl, (s1.trans (s2.trans s24)).seq ha, by decide, _, rfl, fun pp o po npp => ?_⟩
  have s5 : Same H4 (upd H4 pp o) := Same.new npp
  show t_k22_1 g (endsQ Q) [some (.ref a), some (.ref pt), some (.ref x), some (.ref t), some (.ref pp), none, none, none, none, none, none, none] (upd H4 pp o)
  refine ⟨_, rfl, by decide, by decide, for_range (n := 3) (fun i σ H' => ∃ p5 p6 p7 p8 p9 p10 p11 : Option V, σ = [some (.ref a), some (.ref pt), some (.ref x), some (.ref t), some (.ref pp), p5, p6, p7, p8, p9, p10, p11] ∧ Same H4 H' ∧ ∃ o, H' pp = some o ∧ PoolO o) ⟨none, none, none, none, none, none, none, rfl, s5, o, upd_same, po⟩ ?_ ?_⟩
  · rintro i σ H' hi ⟨p5, p6, p7, p8, p9, p10, p11, rfl, s6, o1, hp1, po1⟩
    exact pure_k22_2 rb (by omega) s6 npp hp1 po1 fun H2 o2 p6 p7 p8 p9 p10 p11 s2 hp2 po2 => ⟨_, _, _, _, _, _, _, rfl, s2, o2, hp2, po2⟩
  · rintro σ H' ⟨p5, p6, p7, p8, p9, p10, p11, rfl, s6, o1, hp1, po1⟩
    exact q H'
end Sd
namespace Sd
open PySem PySem.Spec PyProof.Rows L2
/-! ### hands without common words, one by one -/
def ApartR (rs : List Rw) : Prop := ∀ (i j : Nat) (r r' : Rw), rs[i]? = some r → rs[j]? = some r' → i ≠ j → ∀ w ∈ wordsOf r.2, w ∉ wordsOf r'.2
def cmp (p : List Int) (i : Nat) : List Int := [p[i]?.getD 0]
def ownM (i : Nat) (ms : List Move) : List Move := ms.filterMap fun m => match m.2[i]? with
  | some (some k) => some (m.1, [some k])
  | _ => none
theorem mem_alone {r : Rw} {q : Int} {m : Move} : m ∈ movesOf [r] [q] ↔ m.1 ∈ wordsOf r.2 ∧ ∃ o ∈ numbersOf r.2 q m.1, m.2 = [o] := by
  have sw : ∀ w, w ∈ sysWords [r] ↔ w ∈ wordsOf r.2 := fun w => by unfold sysWords; rw [mem_uniq]; simp
  unfold movesOf
  rw [List.mem_flatMap]
  constructor
  · rintro ⟨w, hw, hm⟩
    obtain ⟨l, hl, rfl⟩ := List.mem_map.mp hm
    obtain ⟨l', n, hl', hn, rfl⟩ := mem_stepL (ls := [[]]) (ns := numbersOf r.2 q w) hl
    rw [List.mem_singleton.mp hl']
    exact ⟨(sw w).mp hw, n, hn, rfl⟩
  · rintro ⟨hw, o, ho, e⟩
    refine ⟨m.1, (sw _).mpr hw, List.mem_map.mpr ⟨m.2, ?_, rfl⟩⟩
    rw [e]
    show [o] ∈ stepL [[]] (numbersOf r.2 q m.1)
    unfold stepL
    exact List.mem_flatMap.mpr ⟨[], List.mem_singleton.mpr rfl, List.mem_map.mpr ⟨o, ho, rfl⟩⟩
theorem holder_of {rs : List Rw} {w : Str} (h : w ∈ sysWords rs) : ∃ (j : Nat) (r : Rw), rs[j]? = some r ∧ w ∈ wordsOf r.2 := by
  obtain ⟨r, hr, hz⟩ := List.mem_flatMap.mp (mem_uniq.mp h)
  obtain ⟨j, hj⟩ := List.mem_iff_getElem?.mp hr
  exact ⟨j, r, hj, hz⟩
/-- the number of a hand in a move: none, or one of a step with the word -/
theorem num_at {rs : List Rw} {p : List Int} {m : Move} {i : Nat} {r : Rw} (h : m ∈ movesOf rs p) (pl : p.length = rs.length) (hr : rs[i]? = some r) : m.2[i]? = some none ∨ ∃ k : Int, m.2[i]? = some (some k) ∧ some k ∈ numbersOf r.2 (p[i]?.getD 0) m.1 ∧ m.1 ∈ wordsOf r.2 := by
  obtain ⟨ml, val⟩ := moves_nums h pl
  have il := (List.getElem?_eq_some_iff.mp hr).1
  have hst : p[i]? = some (p[i]'(by omega)) := List.getElem?_eq_getElem _
  obtain ⟨o, ho, mo⟩ := val i r _ hr hst
  cases o with
  | none => exact .inl ho
  | some k =>
    refine .inr ⟨k, ho, by rw [hst]; exact mo, ?_⟩
    refine Classical.byContradiction fun n => ?_
    rw [numbers_ne n] at mo
    cases List.mem_singleton.mp mo
theorem beh_len (rs : List Rw) (p : List Int) (l : List (Option Int)) : (behindOf rs p l).length = rs.length := by unfold behindOf; rw [List.length_map, List.length_range]
theorem beh_get {rs : List Rw} {p : List Int} {l : List (Option Int)} {i : Nat} (h : i < rs.length) : (behindOf rs p l)[i]? = some (behAt rs p l i) := by
  unfold behindOf
  rw [List.getElem?_map, List.getElem?_range h]; rfl
theorem cmp_still {rs : List Rw} {p : List Int} {l : List (Option Int)} {i : Nat} (h : i < rs.length) (e : l[i]? = some none) : cmp (behindOf rs p l) i = cmp p i := by
  unfold cmp
  rw [beh_get h]
  unfold behAt
  rw [e]; rfl
theorem cmp_step {rs : List Rw} {p : List Int} {l : List (Option Int)} {i : Nat} {r : Rw} {k : Int} (hr : rs[i]? = some r) (e : l[i]? = some (some k)) : behindOf [r] (cmp p i) [some k] = cmp (behindOf rs p l) i := by
  have il := (List.getElem?_eq_some_iff.mp hr).1
  unfold cmp
  rw [beh_get il]
  unfold behAt
  rw [e, hr]
  rfl
theorem ownM_cons_none {i : Nat} {m : Move} {ms : List Move} (e : m.2[i]? = some none) : ownM i (m :: ms) = ownM i ms := by
  unfold ownM
  rw [List.filterMap_cons, e]
theorem ownM_cons_some {i : Nat} {m : Move} {ms : List Move} {k : Int} (e : m.2[i]? = some (some k)) : ownM i (m :: ms) = (m.1, [some k]) :: ownM i ms := by
  unfold ownM
  rw [List.filterMap_cons, e]
/-- the moves of one hand are a path of this hand alone -/
theorem own_path {rs : List Rw} {i : Nat} {r : Rw} (hr : rs[i]? = some r) : ∀ {ms : List Move} {p : List Int}, p.length = rs.length → OkP rs p ms → OkP [r] (cmp p i) (ownM i ms) ∧ endP [r] (cmp p i) (ownM i ms) = cmp (endP rs p ms) i ∧ ∀ q, q ∈ plP [r] (cmp p i) (ownM i ms) ↔ ∃ p' ∈ plP rs p ms, q = cmp p' i
  | [], p, pl, _ => ⟨trivial, rfl, fun q => by
      show q ∈ [cmp p i] ↔ ∃ p' ∈ [p], q = cmp p' i
      rw [List.mem_singleton]
      exact ⟨fun e => ⟨p, List.mem_singleton.mpr rfl, e⟩, fun ⟨p', hp, e⟩ => by rw [List.mem_singleton.mp hp] at e; exact e⟩⟩
  | m :: ms, p, pl, ok => by
    have il := (List.getElem?_eq_some_iff.mp hr).1
    obtain ⟨ok1, ok2⟩ := ok
    obtain ⟨h1, h2, h3⟩ := own_path hr (ms := ms) (p := behindOf rs p m.2) (beh_len rs p m.2) ok2
    rcases num_at ok1 pl hr with e | ⟨k, e, hk, hw⟩
    · rw [ownM_cons_none e, endP_cons, plP_cons]
      rw [cmp_still il e] at h1 h2 h3
      refine ⟨h1, h2, fun q => ?_⟩
      rw [h3 q]
      constructor
      · rintro ⟨p', hp, e'⟩; exact ⟨p', List.mem_cons_of_mem _ hp, e'⟩
      · rintro ⟨p', hp, e'⟩
        rcases List.mem_cons.mp hp with z | z
        · exact ⟨_, List.mem_of_getElem? (plP_hd rs _ ms), by rw [cmp_still il e, e', z]⟩
        · exact ⟨p', z, e'⟩
    · rw [ownM_cons_some e, endP_cons, endP_cons, OkP_cons, plP_cons, plP_cons]
      rw [← cmp_step hr e] at h1 h2 h3
      refine ⟨⟨?_, h1⟩, h2, fun q => ?_⟩
      · exact mem_alone.mpr ⟨hw, some k, hk, rfl⟩
      · rw [List.mem_cons, h3 q]
        constructor
        · rintro (z | ⟨p', hp, e'⟩)
          · exact ⟨p, List.mem_cons_self, z⟩
          · exact ⟨p', List.mem_cons_of_mem _ hp, e'⟩
        · rintro ⟨p', hp, e'⟩
          rcases List.mem_cons.mp hp with z | z
          · exact .inl (by rw [e', z])
          · exact .inr ⟨p', z, e'⟩
theorem own_takes {rs : List Rw} {i : Nat} {r : Rw} (hr : rs[i]? = some r) : ∀ {ms : List Move} {p : List Int}, p.length = rs.length → OkP rs p ms → takesB (ownM i ms) 0 = takesB ms i
  | [], _, _, _ => rfl
  | m :: ms, p, pl, ok => by
    have ih := own_takes hr (ms := ms) (beh_len rs p m.2) ok.2
    rcases num_at ok.1 pl hr with e | ⟨k, e, hk, hw⟩
    · rw [ownM_cons_none e, ih]
      unfold takesB
      rw [List.any_cons, e]; rfl
    · rw [ownM_cons_some e]
      unfold takesB
      rw [List.any_cons, List.any_cons, e]; rfl
theorem able_mem {rs : List Rw} {p : List Int} {i : Nat} : (i : Int) ∈ ableOf rs p ↔ i < rs.length ∧ ∃ m ∈ movesOf rs p, (m.2[i]?.getD none).isSome = true := by
  unfold ableOf ableN
  rw [List.mem_map]
  constructor
  · rintro ⟨k, hk, e⟩
    have : k = i := by omega
    subst this
    obtain ⟨h1, h2⟩ := List.mem_filter.mp hk
    obtain ⟨m, hm, z⟩ := List.any_eq_true.mp h2
    exact ⟨List.mem_range.mp h1, m, hm, z⟩
  · rintro ⟨h1, m, hm, z⟩
    exact ⟨i, List.mem_filter.mpr ⟨List.mem_range.mpr h1, List.any_eq_true.mpr ⟨m, hm, z⟩⟩, rfl⟩
/-- a hand is able in the whole exactly if it is so alone -/
theorem able_alone {rs : List Rw} (ap : ApartR rs) {i : Nat} {r : Rw} (hr : rs[i]? = some r) {p : List Int} (pl : p.length = rs.length) : ((i : Int) ∈ ableOf rs p ↔ (0 : Int) ∈ ableOf [r] (cmp p i)) := by
  have il := (List.getElem?_eq_some_iff.mp hr).1
  have h0 := able_mem (rs := [r]) (p := cmp p i) (i := 0)
  rw [able_mem]
  rw [show ((0 : Nat) : Int) = (0 : Int) from rfl] at h0
  rw [h0]
  constructor
  · rintro ⟨_, m, hm, z⟩
    rcases num_at hm pl hr with e | ⟨k, e, hk, hw⟩
    · rw [e] at z; cases z
    · exact ⟨Nat.zero_lt_one, (m.1, [some k]), mem_alone.mpr ⟨hw, some k, hk, rfl⟩, rfl⟩
  · rintro ⟨_, m, hm, z⟩
    obtain ⟨hw, o, ho, e⟩ := mem_alone.mp hm
    refine ⟨il, ?_⟩
    have hst : p[i]? = some (p[i]'(by omega)) := List.getElem?_eq_getElem _
    have ho' : o ∈ numbersOf r.2 (p[i]'(by omega)) m.1 := by rw [hst] at ho; exact ho
    have ne : ∀ n ∈ numsAt rs p m.1, n ≠ [] := fun n hn => by
      obtain ⟨j, hj⟩ := List.mem_iff_getElem?.mp hn
      have jl := (List.getElem?_eq_some_iff.mp hj).1
      rw [nums_len pl] at jl
      have hrj : rs[j]? = some rs[j] := List.getElem?_eq_getElem jl
      have hpj : p[j]? = some (p[j]'(by omega)) := List.getElem?_eq_getElem _
      rw [nums_at hrj hpj] at hj
      cases hj
      by_cases c : i = j
      · subst c
        have er : rs[i] = r := by rw [List.getElem?_eq_getElem jl] at hr; exact Option.some.inj hr
        intro e2
        rw [er] at e2
        rw [e2] at ho'; cases ho'
      · rw [numbers_ne (ap i j r _ hr hrj c _ hw)]
        exact List.cons_ne_nil _ _
    obtain ⟨l, hl, hli⟩ := lines_pick _ (nums_len (w := m.1) pl) ne i _ o (nums_at hr hst) ho'
    have sw : m.1 ∈ sysWords rs := by
      unfold sysWords
      rw [mem_uniq]
      exact List.mem_flatMap.mpr ⟨r, List.mem_of_getElem? hr, hw⟩
    refine ⟨(m.1, l), List.mem_flatMap.mpr ⟨m.1, sw, List.mem_map.mpr ⟨l, hl, rfl⟩⟩, ?_⟩
    show (l[i]?.getD none).isSome = true
    rw [hli]
    rw [e] at z
    exact z
/-- the diligent hands of the system of hand i alone -/
def dilA (ks : List Int) (i : Nat) : List Int := (ks.filter fun k => decide (k = (i : Int))).map fun _ => 0
def aloneB (rs : List Rw) (ks : List Int) (a b : List Move) (i : Nat) : Bool := match rs[i]? with
  | some r => isFairB [r] (dilA ks i) ((plP [r] (st0 [r]) (ownM i a ++ ownM i b)).drop (ownM i a).length) (ownM i b)
  | none => true
theorem cmp_st0 {rs : List Rw} {i : Nat} {r : Rw} (hr : rs[i]? = some r) : cmp (st0 rs) i = st0 [r] := by
  unfold cmp st0
  rw [List.getElem?_map, hr]; rfl
theorem endP_len {rs : List Rw} : ∀ {ms : List Move} {p : List Int}, p.length = rs.length → (endP rs p ms).length = rs.length
  | [], _, h => h
  | m :: ms, p, _ => by rw [endP_cons]; exact endP_len (beh_len rs p m.2)
theorem plP_lens {rs : List Rw} : ∀ {ms : List Move} {p : List Int}, p.length = rs.length → ∀ q ∈ plP rs p ms, q.length = rs.length
  | [], p, h, q, hq => by rw [List.mem_singleton.mp hq]; exact h
  | m :: ms, p, h, q, hq => by
    rw [plP_cons] at hq
    rcases List.mem_cons.mp hq with z | z
    · rw [z]; exact h
    · exact plP_lens (beh_len rs p m.2) q z
theorem alone_is {rs : List Rw} {ks : List Int} (ap : ApartR rs) {a b : List Move} (ok : OkP rs (st0 rs) (a ++ b)) {i : Nat} (il : i < rs.length) : aloneB rs ks a b i = (decide (cmp (endP rs (endP rs (st0 rs) a) b) i = cmp (endP rs (st0 rs) a) i) && (!decide ((i : Int) ∈ ks) || goodH rs (plP rs (endP rs (st0 rs) a) b) b (i : Int))) := by
  have hr : rs[i]? = some rs[i] := List.getElem?_eq_getElem il
  unfold aloneB
  rw [hr]
  generalize rs[i] = r at hr
  show isFairB [r] (dilA ks i) ((plP [r] (st0 [r]) (ownM i a ++ ownM i b)).drop (ownM i a).length) (ownM i b) = _
  have l0 : (st0 rs).length = rs.length := by unfold st0; rw [List.length_map]
  obtain ⟨oka, okb⟩ := (OkP_app rs a b _).mp ok
  have la := endP_len (ms := a) l0
  obtain ⟨a1, a2, a3⟩ := own_path hr l0 oka
  obtain ⟨b1, b2, b3⟩ := own_path hr la okb
  rw [isFair_path, ← cmp_st0 hr, a2, b2]
  congr 1
  rw [fairB_all]
  have gd : goodH [r] (plP [r] (cmp (endP rs (st0 rs) a) i) (ownM i b)) (ownM i b) 0 = goodH rs (plP rs (endP rs (st0 rs) a) b) b (i : Int) := by
    unfold goodH
    rw [show (0 : Int).toNat = 0 from rfl, Int.toNat_natCast, own_takes hr la okb]
    congr 2
    unfold allAble
    rw [Bool.eq_iff_iff, List.all_eq_true, List.all_eq_true]
    constructor
    · intro h q hq
      have := h (cmp q i) ((b3 _).mpr ⟨q, hq, rfl⟩)
      rw [decide_eq_true_iff] at this ⊢
      exact (able_alone ap hr (plP_lens la q hq)).mpr this
    · intro h q hq
      obtain ⟨p', hp', rfl⟩ := (b3 q).mp hq
      have := h p' hp'
      rw [decide_eq_true_iff] at this ⊢
      exact (able_alone ap hr (plP_lens la p' hp')).mp this
  unfold dilA
  by_cases c : (i : Int) ∈ ks
  · rw [decide_eq_true c, Bool.not_true, Bool.false_or, ← gd, Bool.eq_iff_iff, List.all_eq_true]
    constructor
    · intro h
      exact h 0 (List.mem_map.mpr ⟨(i : Int), List.mem_filter.mpr ⟨c, by simp⟩, rfl⟩)
    · intro h z hz
      obtain ⟨_, _, e⟩ := List.mem_map.mp hz
      rw [← e]; exact h
  · rw [decide_eq_false c]
    have : (ks.filter fun k => decide (k = (i : Int))) = [] := by
      rw [List.filter_eq_nil_iff]
      intro k hk e
      exact c (by have := of_decide_eq_true e; rw [← this]; exact hk)
    rw [this]; rfl
/-- fair in the whole exactly if fair hand by hand -/
theorem fair_by_hands {rs : List Rw} {ks : List Int} (ap : ApartR rs) (kok : ∀ d ∈ ks, 0 ≤ d ∧ d < (rs.length : Int)) {a b : List Move} (ok : OkP rs (st0 rs) (a ++ b)) : isFairB rs ks ((plP rs (st0 rs) (a ++ b)).drop a.length) b = (List.range rs.length).all (aloneB rs ks a b) := by
  have l0 : (st0 rs).length = rs.length := by unfold st0; rw [List.length_map]
  have la := endP_len (ms := a) l0
  have lb := endP_len (ms := b) la
  rw [isFair_path, Bool.eq_iff_iff, Bool.and_eq_true, decide_eq_true_iff, fairB_all, List.all_eq_true, List.all_eq_true]
  constructor
  · rintro ⟨e, f⟩ i hi
    have il := List.mem_range.mp hi
    rw [alone_is ap ok il, e, decide_eq_true rfl, Bool.true_and]
    by_cases c : (i : Int) ∈ ks
    · rw [f _ c, Bool.or_true]
    · rw [decide_eq_false c]; rfl
  · intro h
    have each : ∀ i, i < rs.length → cmp (endP rs (endP rs (st0 rs) a) b) i = cmp (endP rs (st0 rs) a) i ∧ ((i : Int) ∈ ks → goodH rs (plP rs (endP rs (st0 rs) a) b) b (i : Int) = true) := fun i il => by
      have := h i (List.mem_range.mpr il)
      rw [alone_is ap ok il, Bool.and_eq_true, decide_eq_true_iff] at this
      refine ⟨this.1, fun c => ?_⟩
      have h2 := this.2
      rw [decide_eq_true c] at h2
      exact h2
    refine ⟨?_, fun d hd => ?_⟩
    · refine List.ext_getElem? fun i => ?_
      by_cases il : i < rs.length
      · have := (each i il).1
        unfold cmp at this
        rw [List.getElem?_eq_getElem (show i < (endP rs (endP rs (st0 rs) a) b).length by omega), List.getElem?_eq_getElem (show i < (endP rs (st0 rs) a).length by omega)] at this ⊢
        simpa using this
      · rw [List.getElem?_eq_none (by omega), List.getElem?_eq_none (by omega)]
    · obtain ⟨d0, d1⟩ := kok d hd
      obtain ⟨i, rfl⟩ := Int.eq_ofNat_of_zero_le d0
      exact (each i (by omega)).2 hd
end Sd
namespace Sd
open PySem PySem.Spec PyProof.Rows L2
theorem numbers_le' {L : List Step} (fb : firstBad (L.map some) [] 0 = none) (st : Int) (w : Str) : (numbersOf L st w).length ≤ 4 := by
  unfold numbersOf
  split
  · rw [List.length_map]
    have h1 := hits_le st w L L.length
    have h2 := firstBad_leaving (s := st) L [] 0 fb (by simp [leavingN])
    rw [List.take_length] at h1
    rw [List.nil_append] at h2
    exact Nat.le_trans h1 h2
  · simp
theorem SysRows.small {rs : List Rw} {ks : List Int} (h : SysRows rs ks) : SmallR rs := ⟨h.n4, h.w12, fun r hr st w => numbers_le' (h.fb r hr) st w, fun r hr => by have := h.l2 r hr; omega⟩
theorem one_all {l : List Int} {a : Int} (nd : l.Nodup) (h : ∀ x ∈ l, x = a) : l.length ≤ 1 := by
  have := nodup_leG l [a] nd fun x hx => by rw [h x hx]; exact List.mem_singleton.mpr rfl
  exact this
theorem SysRows.alone {rs : List Rw} {ks : List Int} (h : SysRows rs ks) {i : Nat} {r : Rw} (hr : rs[i]? = some r) : SysRows [r] (dilA ks i) := by
  have rm := List.mem_of_getElem? hr
  have one : ∀ x ∈ [r], x = r := fun x hx => List.mem_singleton.mp hx
  have sw : (sysWords [r]).length ≤ (wordsOf r.2).length := by
    have := uniq_len ([r].flatMap fun r => wordsOf r.2)
    unfold sysWords
    simpa using this
  have w8 := h.w8 r rm
  have dl : (dilA ks i).length ≤ 1 := by
    unfold dilA
    rw [List.length_map]
    exact one_all ((ascI_nodup h.asc).filter _) fun x hx => of_decide_eq_true (List.mem_filter.mp hx).2
  refine ⟨Nat.le_refl 1, by show 1 ≤ 4; decide, fun x hx => by rw [one x hx]; exact h.st r rm, fun x hx => by rw [one x hx]; exact h.ok r rm, fun x hx => by rw [one x hx]; exact h.fb r rm, fun x hx => by rw [one x hx]; exact h.l1 r rm, fun x hx => by rw [one x hx]; exact h.l2 r rm, fun x hx => by rw [one x hx]; exact w8, fun x hx => by rw [one x hx]; exact h.r8 r rm, by omega, ?_, fun k hk => ?_⟩
  · cases e : dilA ks i with
    | nil => exact List.Pairwise.nil
    | cons a l =>
      rw [e] at dl
      have : l = [] := List.eq_nil_of_length_eq_zero (by simpa using dl)
      rw [this]; exact List.pairwise_singleton _ _
  · obtain ⟨_, _, e⟩ := List.mem_map.mp hk
    rw [← e]; exact ⟨by omega, by show (0 : Int) < 1; decide⟩
/-! ### _law_own -/
def sp_law_own (g : Ga) : Sp := fun vs H Q _ => ∃ (rt : Addr) (i : Nat) (us : List V) (ms : List Move), vs = [.ref rt, .int i] ∧ SqT g.K H rt us ∧ Paired (MoveAt g.K H) us ms ∧ (∀ m ∈ ms, i < m.2.length) ∧ ms.length ≤ 5000 ∧ ∀ t ys H', Same H H' → SqT g.K H' t ys → Paired (MoveAt g.K H') ys (ownM i ms) → Q (.ref t) H'
def t_law_own (g : Ga) : TS := (tRet (tCB (rTupS g.K) (tCons (tLc (iTup g.K (tVar 0)) (gName 2) (tTest (tOp rNotN (tOp (rIxT g.K) (tOp (rIxT g.K) (tVar 2) (tC (.int 1))) (tVar 1)) (tC .non))) (tTup (tCons (tOp (rIxT g.K) (tVar 2) (tC (.int 0))) (tCons (tTup (tCons (tOp (rIxT g.K) (tOp (rIxT g.K) (tVar 2) (tC (.int 1))) (tVar 1)) tNil)) tNil))) [2]) tNil)))
theorem ownM_le (i : Nat) (ms : List Move) : (ownM i ms).length ≤ ms.length := List.length_filterMap_le _ _
theorem pure_law_own {g : Ga} {vs : List V} {H : Hp} {Q : VK} {E : XK} {N : List Str} (hN : N.length = 3) (h : sp_law_own g vs H Q E) : t_law_own g (endsQ Q) (L2.start N vs) H := by
  obtain ⟨rt, h, us, ms, rfl, hu, hm, len, few, q⟩ := h
  have e0 : L2.start N [.ref rt, .int h] = [some (.ref rt), some (.int h), none] := by unfold L2.start; rw [hN]; rfl
  rw [e0]
  have lu := hm.length
  refine ⟨_, rfl, rt, rfl, ⟨_, hu⟩, fun D hD => ?_⟩
  refine lc_tup (K := g.K) (a := rt) (xs := us) (fun i H' => Same H H' ∧ ∃ ys, H' D = some (.lst ys) ∧ Paired (MoveAt g.K H') ys (ownM h (ms.take i))) ⟨Same.new hD, [], upd_same, .nil⟩ (fun i H' _ z => Same.tup z.1 hu) ?_ ?_
  · rintro i v H' hv ⟨s1, ys, hy, hys⟩
    obtain ⟨m, hm1, ma, mb, rfl, hma, hmb⟩ := paired_get hm hv
    have hl := len m (List.mem_of_getElem? hm1)
    have il := (List.getElem?_eq_some_iff.mp hm1).1
    have axm : atI (m.2.map optV) ((h : Nat) : Int) = some (optV m.2[h]) := atI_nat (by rw [List.getElem?_map, List.getElem?_eq_getElem hl]; rfl)
    have e1 : m.2[h]? = some m.2[h] := List.getElem?_eq_getElem hl
    have ly := hys.length
    have l2 := ownM_le h (ms.take i)
    rw [List.length_take] at l2
    have tk : ownM h (ms.take (i + 1)) = ownM h (ms.take i) ++ ownM h [m] := by
      unfold ownM
      rw [List.take_add_one, hm1, Option.toList_some, List.filterMap_append]
    refine ⟨rfl, _, rfl, ma, _, _, .ref mb, rfl, rfl, Same.tup s1 hma, rfl, _, rfl, mb, _, _, optV m.2[h], rfl, rfl, Same.tup s1 hmb, axm, rfl, _, rfl, ?_⟩
    cases e : m.2[h] with
    | none =>
      refine iteF ⟨s1, ys, hy, ?_⟩
      rw [tk, ownM_cons_none (by rw [e1, e])]
      show Paired _ _ (_ ++ [])
      rw [List.append_nil]; exact hys
    | some z =>
      rw [decide_eq_false (show ¬ optV (some z) = V.non from fun z => by cases z)]
      rw [e] at axm
      refine iteT ⟨_, rfl, ma, _, _, .str m.1, rfl, rfl, Same.tup s1 hma, rfl, _, rfl, ma, _, _, .ref mb, rfl, rfl, Same.tup s1 hma, rfl, _, rfl, mb, _, _, optV (some z), rfl, rfl, Same.tup s1 hmb, axm, by show 1 ≤ sizeLine; decide, fun t1 ht1 => ⟨by show 2 ≤ sizeLine; decide, fun t2 ht2 => ?_⟩⟩
      have s2 : Same H' (upd H' t1 (.tup [optV (some z)])) := Same.new ht1
      have s3 : Same (upd H' t1 (.tup [optV (some z)])) (upd (upd H' t1 (.tup [optV (some z)])) t2 (.tup [.str m.1, .ref t1])) := Same.new ht2
      have s23 := s2.trans s3
      have mv : MoveAt g.K (upd (upd H' t1 (.tup [optV (some z)])) t2 (.tup [.str m.1, .ref t1])) (.ref t2) (m.1, [some z]) := ⟨t2, t1, rfl, SqT.of upd_same, SqT.of (s3 _ _ upd_same)⟩
      have hy3 := s23 _ _ hy
      refine ⟨ys, hy3, big_line (by omega), Same.own (s1.trans s23) hD, ys ++ [.ref t2], upd_same, ?_⟩
      rw [tk, ownM_cons_some (by rw [e1, e])]
      exact paired_app (paired_mono (fun _ _ w => (w.mono s23).upd hy3) hys) (.cons (mv.upd hy3) .nil)
  · rintro H' ⟨s1, ys, hy, hys⟩
    rw [lu, List.take_length] at hys
    refine ⟨D, ys, rfl, .inl ⟨SqL.of hy, fun t ht => ?_⟩⟩
    have s2 : Same H' (upd H' t (.tup ys)) := Same.new ht
    exact q t ys _ (s1.trans s2) (SqT.of upd_same) (paired_mono (fun _ _ w => w.mono s2) hys)
/-! ### _law_holds -/
def sp_k24_holds (g : Ga) : Sp := fun vs H Q _ => ∃ (pt rl cl rt : Addr) (f l : Nat) (rs : List Rw) (ks : List Int) (us : List V) (ms : List Move) (ps : List (List Int)), vs = [.ref pt, .ref rt, .int f, .int l] ∧ H pt = some (.tup [.ref rl, .ref cl]) ∧ RowsAt g H rl rs ∧ H cl = some (.lst (ks.map V.int)) ∧ SysRows rs ks ∧ ApartR rs ∧ SqT g.K H rt us ∧ Paired (MoveAt g.K H) us ms ∧ WalkOk rs ps ms ∧ ms.length ≤ 1000 ∧ f ≤ l ∧ l ≤ ms.length ∧ ∀ H', Same H H' → Q (.bl true) H'
def t_k4_7 (g : Ga) : TS := (tRet (tAndV (tCB (rIsi g.K) (tCons (tVar 6) (tCons (tC (.ty "bool")) tNil))) (tOp rEq (tVar 6) (tVar 7))))
def t_k4_6 (g : Ga) : TS := (tIfS (tNot (tB (tCall (sp_is_fair g) [] E0 (tCons (tVar 10) (tCons (tCall (sp_law_own g) [] E0 (tCons (tVar 4) (tCons (tVar 8) tNil))) (tCons (tCall (sp_law_own g) [] E0 (tCons (tVar 5) (tCons (tVar 8) tNil))) tNil)))))) (tAsg (tC (.bl false)) (gName 7)) tNext)
def t_k4_5 (g : Ga) : TS := (tSeq (tAsg (tCall (sp_law_system g) [] E0 (tCons (tLst (tCons (tOp (rIxL g.K) (tOp (rIxT g.K) (tVar 0) (tC (.int 0))) (tVar 8)) tNil)) (tCons (tVar 9) tNil))) (gName 10)) (t_k4_6 g))
def t_k4_4 (g : Ga) : TS := (tSeq (tAsg (tLc (iList g.K (tOp (rIxT g.K) (tVar 0) (tC (.int 1)))) (gName 11) (tTest (tOp rEq (tVar 11) (tVar 8))) (tC (.int 0)) [11]) (gName 9)) (t_k4_5 g))
def t_k4_3 (g : Ga) : TS := (tSeq (tFor (iRng1 (tCons (tCB (rLenS g.K) (tCons (tOp (rIxT g.K) (tVar 0) (tC (.int 0))) tNil)) tNil)) (gName 8) (t_k4_4 g)) (t_k4_7 g))
def t_k4_2 (g : Ga) : TS := (tSeq (tAsg (tCall (sp_is_fair g) [] E0 (tCons (tCall (sp_law_system g) [] E0 (tCons (tOp (rIxT g.K) (tVar 0) (tC (.int 0))) (tCons (tOp (rIxT g.K) (tVar 0) (tC (.int 1))) tNil))) (tCons (tVar 4) (tCons (tVar 5) tNil)))) (gName 6)) (tSeq (tAsg (tC (.bl true)) (gName 7)) (t_k4_3 g)))
def t_k4_1 (g : Ga) : TS := (tSeq (tAsg (tSl (rSlA g.K) (tVar 1) (tPart (tVar 2)) (tPart (tVar 3))) (gName 5)) (t_k4_2 g))
def t_k24__law_holds (g : Ga) : TS := (tSeq (tAsg (tSl (rSlA g.K) (tVar 1) tNoPart (tPart (tVar 2))) (gName 4)) (t_k4_1 g))
theorem pure_k4_4 {g : Ga} {D : Ends} {B H : Hp} {p1 p2 p3 p9 p10 : Option V} {pt rl cl st lo : Addr} {i : Nat} {rs : List Rw} {ks : List Int} {us1 us2 : List V} {a b : List Move} {told due : Bool} (hpt : B pt = some (.tup [.ref rl, .ref cl])) (hr : RowsAt g B rl rs) (hcl : B cl = some (.lst (ks.map V.int))) (dr : SysRows rs ks) (hst : SqT g.K B st us1) (hlo : SqT g.K B lo us2) (m1 : Paired (MoveAt g.K B) us1 a) (m2 : Paired (MoveAt g.K B) us2 b) (ok : OkP rs (st0 rs) (a ++ b)) (la : a.length ≤ 1000) (lb : b.length ≤ 1000) (lens : ∀ m ∈ a ++ b, m.2.length = rs.length) (il : i < rs.length) (s0 : Same B H)
    (q : ∀ H' p9 p10, Same B H' → D.nx [some (.ref pt), p1, p2, p3, some (.ref st), some (.ref lo), some (.bl told), some (.bl (due && aloneB rs ks a b i)), some (.int (0 + (i : Int))), p9, p10, none] H') :
    t_k4_4 g D [some (.ref pt), p1, p2, p3, some (.ref st), some (.ref lo), some (.bl told), some (.bl due), some (.int (0 + (i : Int))), p9, p10, none] H := by
  have ez : (0 : Int) + (i : Int) = ((i : Nat) : Int) := Int.zero_add _
  have hri : rs[i]? = some rs[i] := List.getElem?_eq_getElem il
  have lk : ks.length ≤ 1000 := by
    have := asc_len dr.asc dr.rng
    have := dr.n4
    omega
  refine ⟨_, rfl, pt, _, _, .ref cl, rfl, rfl, SqT.of (s0 _ _ hpt), rfl, cl, rfl, ⟨_, SqL.of (s0 _ _ hcl)⟩, fun Da hDa => ?_⟩
  refine lc_list (K := g.K) (a := cl) (xs := ks.map V.int) (fun j H1 => Same H H1 ∧ H1 Da = some (.lst ((((ks.take j).filter fun k => decide (k = (i : Int))).map fun _ => (0 : Int)).map V.int))) ⟨Same.new hDa, upd_same⟩ (fun j H1 _ z => SqL.of ((s0.trans z.1) _ _ hcl)) ?_ ?_
  · rintro j v H1 hv ⟨s1, hd⟩
    obtain ⟨k, hk, rfl⟩ := map_get hv
    have tk : ((ks.take (j + 1)).filter fun k => decide (k = (i : Int))) = ((ks.take j).filter fun k => decide (k = (i : Int))) ++ if k = (i : Int) then [k] else [] := by
      rw [List.take_add_one, hk, Option.toList_some, List.filter_append, List.filter_cons, List.filter_nil]
      by_cases z : k = (i : Int) <;> simp [z]
    have ll : ((ks.take j).filter fun k => decide (k = (i : Int))).length ≤ 1000 := by
      have := List.length_filter_le (fun k => decide (k = (i : Int))) (ks.take j)
      rw [List.length_take] at this
      omega
    refine ⟨rfl, _, rfl, _, rfl, rfl, _, rfl, ?_⟩
    by_cases z : k = (i : Int)
    · rw [decide_eq_true (show V.int k = V.int (0 + (i : Int)) by rw [ez, z])]
      refine iteT ⟨_, hd, by rw [List.length_map, List.length_map]; exact small1000 ll, Same.own s1 hDa, ?_⟩
      rw [upd_same, tk, if_pos z, List.map_append, List.map_append]; rfl
    · rw [decide_eq_false (show ¬ V.int k = V.int (0 + (i : Int)) from fun e => z (by rw [ez] at e; injection e))]
      refine iteF ⟨s1, ?_⟩
      rw [hd, tk, if_neg z, List.append_nil]
  · rintro H1 ⟨s1, hd⟩
    rw [List.length_map, List.take_length] at hd
    have hd' : H1 Da = some (.lst ((dilA ks i).map V.int)) := hd
    have s01 := s0.trans s1
    obtain ⟨xr, hxr, hxp⟩ := (hr.mono s01).ex
    have lxr := hxp.length
    have hy : xr[i]? = some (xr[i]'(by omega)) := List.getElem?_eq_getElem _
    obtain ⟨r, hr1, row⟩ := paired_get hxp hy
    rw [hri] at hr1
    have er : rs[i] = r := Option.some.inj hr1
    rw [er] at hri
    have axx : atI xr (0 + (i : Int)) = some (xr[i]'(by omega)) := by rw [ez]; exact atI_nat hy
    show t_k4_5 g D [some (.ref pt), p1, p2, p3, some (.ref st), some (.ref lo), some (.bl told), some (.bl due), some (.int (0 + (i : Int))), some (.ref Da), p10, none] H1
    refine ⟨_, rfl, pt, _, _, .ref rl, rfl, rfl, SqT.of (s01 _ _ hpt), rfl, _, rfl, rl, xr, _, _, rfl, rfl, SqL.of hxr, axx, by show 1 ≤ sizeLine; decide, fun nl hnl => ?_⟩
    have s2 : Same H1 (upd H1 nl (.lst [xr[i]'(by omega)])) := Same.new hnl
    refine ⟨_, rfl, nl, Da, [r], dilA ks i, rfl, ⟨_, upd_same, .cons (row.mono s2) .nil⟩, s2 _ _ hd', dr.alone hri, fun x H3 s3 nx hx => ?_⟩
    have s03 := s01.trans (s2.trans s3)
    show t_k4_6 g D [some (.ref pt), p1, p2, p3, some (.ref st), some (.ref lo), some (.bl told), some (.bl due), some (.int (0 + (i : Int))), some (.ref Da), some (.ref x), none] H3
    refine ⟨_, rfl, _, rfl, _, rfl, st, i, us1, a, by rw [ez]; rfl, Same.tup s03 hst, paired_mono (fun _ _ z => z.mono s03) m1, fun m hm => by rw [lens m (List.mem_append.mpr (.inl hm))]; exact il, by omega, fun ta ya H4 s4 hta mya => ?_⟩
    have s04 := s03.trans s4
    refine ⟨_, rfl, _, rfl, lo, i, us2, b, by rw [ez]; rfl, Same.tup s04 hlo, paired_mono (fun _ _ z => z.mono s04) m2, fun m hm => by rw [lens m (List.mem_append.mpr (.inr hm))]; exact il, by omega, fun tb yb H5 s5 htb myb => ?_⟩
    have l0 : (st0 rs).length = rs.length := by unfold st0; rw [List.length_map]
    obtain ⟨oka, okb⟩ := (OkP_app rs a b _).mp ok
    obtain ⟨a1, a2, a3⟩ := own_path hri l0 oka
    obtain ⟨b1, b2, b3⟩ := own_path hri (endP_len (ms := a) l0) okb
    have okn : OkP [r] (st0 [r]) (ownM i a ++ ownM i b) := by
      rw [← cmp_st0 hri, OkP_app, a2]
      exact ⟨a1, b1⟩
    have la2 := ownM_le i a
    have lb2 := ownM_le i b
    refine ⟨x, ta, tb, [r], dilA ks i, ya, yb, ownM i a, ownM i b, plP [r] (st0 [r]) (ownM i a ++ ownM i b), rfl, hx.mono (s4.trans s5), (dr.alone hri).small, (dr.alone hri).rng, Same.tup s5 hta, htb, paired_mono (fun _ _ z => z.mono s5) mya, myb, walk_of okn, by rw [List.length_append]; omega, fun H6 s6 => ?_⟩
    have eb : aloneB rs ks a b i = isFairB [r] (dilA ks i) ((plP [r] (st0 [r]) (ownM i a ++ ownM i b)).drop (ownM i a).length) (ownM i b) := by unfold aloneB; rw [hri]
    rw [← eb]
    have s06 := s04.trans (s5.trans s6)
    refine ⟨_, rfl, ?_⟩
    have q' := q H6 (some (.ref Da)) (some (.ref x)) s06
    cases c : aloneB rs ks a b i with
    | true =>
      rw [c, Bool.and_true] at q'
      exact iteF q'
    | false =>
      rw [c, Bool.and_false] at q'
      exact iteT q'
theorem pure_k24__law_holds {g : Ga} {vs : List V} {H : Hp} {Q : VK} {E : XK} {N : List Str} (hN : N.length = 12) (h : sp_k24_holds g vs H Q E) : t_k24__law_holds g (endsQ Q) (L2.start N vs) H := by
  obtain ⟨pt, rl, cl, rt, f, l, rs, ks, us, ms, ps, rfl, hpt, hr, hcl, dr, ap, hu, hm, wk, few, fl, lm, q⟩ := h
  have e0 : L2.start N [.ref pt, .ref rt, .int f, .int l] = [some (.ref pt), some (.ref rt), some (.int f), some (.int l), none, none, none, none, none, none, none, none] := by unfold L2.start; rw [hN]; rfl
  rw [e0]
  have lu := hm.length
  have n4 := dr.n4
  refine sl_to rfl rfl hu (by omega) fun st H1 s1 hst => ?_
  show t_k4_1 g (endsQ Q) [some (.ref pt), some (.ref rt), some (.int f), some (.int l), some (.ref st), none, none, none, none, none, none, none] H1
  refine ⟨_, rfl, _, rfl, _, rfl, _, rfl, _, rfl, sl_tup (Same.tup s1 hu) fun lo H2 s2 hlo => ?_⟩
  rw [cutV_slice (by omega) fl] at hlo
  have s02 := s1.trans s2
  have em : ms.take f ++ (ms.drop f).take (l - f) = ms.take l := by
    have := List.take_add (l := ms) (i := f) (j := l - f)
    rw [show f + (l - f) = l by omega] at this
    exact this.symm
  obtain ⟨epl, okl⟩ := (wk.take (n := l) lm).path
  rw [← em] at okl
  have la : (ms.take f).length ≤ 1000 := by rw [List.length_take]; omega
  have lb : ((ms.drop f).take (l - f)).length ≤ 1000 := by rw [List.length_take, List.length_drop]; omega
  have m1 := paired_take f hm
  have m2 := paired_take (l - f) (paired_drop f hm)
  have lens : ∀ m ∈ ms.take f ++ (ms.drop f).take (l - f), m.2.length = rs.length := fun m hm => wk.mlen m (by rw [em] at hm; exact List.mem_of_mem_take hm)
  generalize (ms.drop f).take (l - f) = b at okl lb m2 lens
  generalize ms.take f = a at okl la m1 lens
  generalize us.take f = us1 at hst m1
  generalize (us.drop f).take (l - f) = us2 at hlo m2
  show t_k4_2 g (endsQ Q) [some (.ref pt), some (.ref rt), some (.int f), some (.int l), some (.ref st), some (.ref lo), none, none, none, none, none, none] H2
  refine ⟨_, rfl, pt, _, _, .ref rl, rfl, rfl, SqT.of (s02 _ _ hpt), rfl, _, rfl, pt, _, _, .ref cl, rfl, rfl, SqT.of (s02 _ _ hpt), rfl, rl, cl, rs, ks, rfl, hr.mono s02, s02 _ _ hcl, dr, fun x H3 s3 nx hx => ?_⟩
  have s03 := s02.trans s3
  refine ⟨_, rfl, _, rfl, x, st, lo, rs, ks, us1, us2, a, b, plP rs (st0 rs) (a ++ b), rfl, hx, dr.small, dr.rng, Same.tup (s2.trans s3) hst, Same.tup s3 hlo, paired_mono (fun _ _ z => z.mono s03) m1, paired_mono (fun _ _ z => z.mono s03) m2, walk_of okl, by rw [List.length_append]; omega, fun H4 s4 => ?_⟩
  rw [fair_by_hands ap dr.rng okl]
  have s04 := s03.trans s4
  obtain ⟨xr, hxr, hxp⟩ := (hr.mono s04).ex
  have lxr := hxp.length
  show t_k4_3 g (endsQ Q) [some (.ref pt), some (.ref rt), some (.int f), some (.int l), some (.ref st), some (.ref lo), some (.bl ((List.range rs.length).all (aloneB rs ks a b))), some (.bl true), none, none, none, none] H4
  refine ⟨_, rfl, pt, _, _, .ref rl, rfl, rfl, SqT.of (s04 _ _ hpt), rfl, rl, xr, rfl, .inl (SqL.of hxr), _, rfl, by omega, by omega, for_range (n := xr.length) (fun i σ H' => ∃ p8 p9 p10 : Option V, σ = [some (.ref pt), some (.ref rt), some (.int f), some (.int l), some (.ref st), some (.ref lo), some (.bl ((List.range rs.length).all (aloneB rs ks a b))), some (.bl ((List.range i).all (aloneB rs ks a b))), p8, p9, p10, none] ∧ Same H4 H') ⟨none, none, none, rfl, Same.refl _⟩ ?_ ?_⟩
  · rintro i σ H' hi ⟨p8, p9, p10, rfl, s5⟩
    show t_k4_4 g _ [some (.ref pt), some (.ref rt), some (.int f), some (.int l), some (.ref st), some (.ref lo), some (.bl ((List.range rs.length).all (aloneB rs ks a b))), some (.bl ((List.range i).all (aloneB rs ks a b))), some (.int (0 + (i : Int))), p9, p10, none] H'
    refine pure_k4_4 (s04 _ _ hpt) (hr.mono s04) (s04 _ _ hcl) dr (Same.tup (s2.trans (s3.trans s4)) hst) (Same.tup (s3.trans s4) hlo) (paired_mono (fun _ _ z => z.mono s04) m1) (paired_mono (fun _ _ z => z.mono s04) m2) okl la lb lens (by omega) s5 fun H6 p9 p10 s6 => ⟨some (.int (0 + (i : Int))), p9, p10, ?_, s6⟩
    rw [List.range_succ, List.all_append, List.all_cons, List.all_nil, Bool.and_true]
  · rintro σ H' ⟨p8, p9, p10, rfl, s5⟩
    rw [lxr]
    show t_k4_7 g (endsQ Q) [some (.ref pt), some (.ref rt), some (.int f), some (.int l), some (.ref st), some (.ref lo), some (.bl ((List.range rs.length).all (aloneB rs ks a b))), some (.bl ((List.range rs.length).all (aloneB rs ks a b))), p8, p9, p10, none] H'
    refine ⟨_, rfl, _, .ty "bool", _, _, true, rfl, .ty _, .base (.bl _), kb (by decide +kernel), true, rfl, iteT ⟨_, rfl, _, rfl, rfl, ?_⟩⟩
    rw [decide_eq_true rfl]
    exact q H' (s04.trans s5)
/-! ### _law_apart -/
def ownN (zs : List Str) (m e k : Nat) : List Str := (List.range e).map fun j => zs.getD (m * j + k) ""
theorem ownN_mem {zs : List Str} {m e k : Nat} (lz : zs.length = e * m) (km : k < m) {z : Str} (h : z ∈ ownN zs m e k) : ∃ j, j < e ∧ zs[m * j + k]? = some z := by
  obtain ⟨j, hj, rfl⟩ := List.mem_map.mp h
  have je := List.mem_range.mp hj
  refine ⟨j, je, ?_⟩
  have : m * j + k < zs.length := by
    rw [lz, Nat.mul_comm]
    have : m * (j + 1) ≤ m * e := Nat.mul_le_mul_left _ je
    rw [Nat.mul_succ] at this
    rw [Nat.mul_comm e m]; rw [Nat.mul_comm]; omega
  rw [List.getD_eq_getElem?_getD, List.getElem?_eq_getElem this]; rfl
theorem nodup_inj {α : Type} {l : List α} (nd : l.Nodup) {i j : Nat} (hi : i < l.length) (hj : j < l.length) (e : l[i] = l[j]) : i = j := by
  have := List.pairwise_iff_getElem.mp nd
  rcases Nat.lt_trichotomy i j with h | h | h
  · exact absurd e (this i j hi hj h)
  · exact h
  · exact absurd e.symm (this j i hj hi h)
theorem ownN_apart {zs : List Str} {m e k k' : Nat} (lz : zs.length = e * m) (nd : zs.Nodup) (km : k < m) (km' : k' < m) (ne : k ≠ k') {z : Str} (h : z ∈ ownN zs m e k) : z ∉ ownN zs m e k' := fun h' => by
  obtain ⟨j, _, h1⟩ := ownN_mem lz km h
  obtain ⟨j', _, h2⟩ := ownN_mem lz km' h'
  have l1 := (List.getElem?_eq_some_iff.mp h1).1
  have l2 := (List.getElem?_eq_some_iff.mp h2).1
  have e1 := (List.getElem?_eq_some_iff.mp h1).2
  have e2 := (List.getElem?_eq_some_iff.mp h2).2
  have ee : m * j + k = m * j' + k' := nodup_inj nd l1 l2 (e1.trans e2.symm)
  apply ne
  have a1 : (m * j + k) % m = k := by rw [Nat.mul_add_mod, Nat.mod_eq_of_lt km]
  have a2 : (m * j' + k') % m = k' := by rw [Nat.mul_add_mod, Nat.mod_eq_of_lt km']
  rw [← a1, ← a2, ee]
structure ApartRows (rs : List Rw) (ks : List Int) : Prop where
  sys : SysRows rs ks
  ap : ApartR rs
def sp_law_apart (g : Ga) : Sp := fun vs H Q _ => ∃ (a : Addr) (ns : List Int), vs = [.ref a, .int 3, .int 3, .int 3, .int 5] ∧ SqL g.K H a (ns.map V.int) ∧
  ∀ (t rl cl : Addr) (rs : List Rw) (ks : List Int) (H' : Hp), Same H H' → H t = none → H rl = none → H cl = none → H' t = some (.tup [.ref rl, .ref cl]) → RowsAt g H' rl rs → H' cl = some (.lst (ks.map V.int)) → ApartRows rs ks → Q (.ref t) H'
def t_la_5 (g : Ga) : TS := (tDrop (tBM g.K "list" rApp (tVar 9) (tCons (tCall (sp_law_hand g) [] E0 (tCons (tCall (sp_law_pool g) [] E0 (tCons (tCall (sp_law_cell g) [] E0 (tCons (tVar 0) (tCons (tOp rAdd (tC (.int 1)) (tVar 10)) tNil))) tNil)) (tCons (tVar 11) (tCons (tVar 3) (tCons (tVar 4) tNil))))) tNil)))
def t_la_4 (g : Ga) : TS := (tSeq (tAsg (tLc (iRng1 (tCons (tVar 2) tNil)) (gName 12) tYes (tOp (rIxL g.K) (tVar 8) (tOp rMod (tCB rInt1 (tCons (tOp rAdd (tOp rMul (tVar 6) (tVar 12)) (tVar 10)) tNil)) (tCB (rLenS g.K) (tCons (tVar 8) tNil)))) [12]) (gName 11)) (t_la_5 g))
def t_la_3 (g : Ga) : TS := (tSeq (tAsg (tLst tNil) (gName 9)) (tSeq (tFor (iRng1 (tCons (tVar 6) tNil)) (gName 10) (t_la_4 g)) (tRet (tTup (tCons (tVar 9) (tCons (tLc (iRng1 (tCons (tVar 6) tNil)) (gName 10) (tTest (tOp rGt (tOp (rIxL g.K) (tVar 7) (tVar 10)) (tC (.int 0)))) (tVar 10) [10]) tNil))))))
def t_la_2 (g : Ga) : TS := (tSeq (tAsg (tCall (sp_law_names g) [] E0 (tCons (tVar 5) (tCons (tOp rMul (tVar 2) (tVar 6)) tNil))) (gName 8)) (t_la_3 g))
def t_la_1 (g : Ga) : TS := (tSeq (tAsg (tLc (iRng1 (tCons (tVar 6) tNil)) (gName 10) tYes (tCall (sp_law_draw g) [] E0 (tCons (tVar 5) (tCons (tC (.int 3)) tNil))) [10]) (gName 7)) (t_la_2 g))
def t_law_apart (g : Ga) : TS := (tSeq (tAsg (tCall (sp_law_pool g) [] E0 (tCons (tCall (sp_law_cell g) [] E0 (tCons (tVar 0) (tCons (tC (.int 0)) tNil))) tNil)) (gName 5)) (tSeq (tAsg (tOp rAdd (tC (.int 1)) (tCall (sp_law_draw g) [] E0 (tCons (tVar 5) (tCons (tVar 1) tNil)))) (gName 6)) (t_la_1 g)))
theorem good_sub {zs zs' : List Str} {ms : Nat} {r : Rw} (h : GoodRow zs ms r) (s : ∀ z ∈ zs, z ∈ zs') : GoodRow zs' ms r := by
  obtain ⟨ss, dr, r1, r2, r3⟩ := h.ex
  exact ⟨⟨ss, ⟨dr.fb, fun x hx => s _ (dr.wd x hx), dr.fr, dr.to⟩, r1, r2, r3⟩, h.l1, h.l2⟩
theorem good_word {zs : List Str} {ms : Nat} {r : Rw} (h : GoodRow zs ms r) {w : Str} (hw : w ∈ wordsOf r.2) : w ∈ zs := by
  obtain ⟨ss, dr, _⟩ := h.ex
  obtain ⟨s, hs, rfl⟩ := List.mem_map.mp (mem_uniq.mp hw)
  exact dr.wd s hs
theorem pure_la_3 {g : Ga} {H0 H : Hp} {Q : VK} {b f : Option V} {a n ea : Addr} {m : Nat} {ns es : List Int} {zs : List Str} (ha : SqL g.K H0 a (ns.map V.int)) (sm : Same H0 H) (hE : H ea = some (.lst (es.map V.int))) (le : es.length = m) (m1 : 1 ≤ m) (m3 : m ≤ 3) (hn : H n = some (.lst (zs.map V.str))) (lz : zs.length = 3 * m) (hz : ∀ z ∈ zs, IsName z) (nd : zs.Nodup)
    (q : ∀ (t rl cl : Addr) (rs : List Rw) (ks : List Int) (H' : Hp), Same H0 H' → H0 t = none → H0 rl = none → H0 cl = none → H' t = some (.tup [.ref rl, .ref cl]) → RowsAt g H' rl rs → H' cl = some (.lst (ks.map V.int)) → ApartRows rs ks → Q (.ref t) H') :
    t_la_3 g (endsQ Q) [some (.ref a), b, some (.int 3), some (.int 3), some (.int 5), f, some (.int m), some (.ref ea), some (.ref n), none, none, none, none] H := by
  refine ⟨by show 0 ≤ sizeLine; decide, fun rl hrl => ?_⟩
  have nrl : H0 rl = none := sm.free hrl
  have ner : ea ≠ rl := ne_of_none hE hrl
  have nnr : n ≠ rl := ne_of_none hn hrl
  refine ⟨_, rfl, _, rfl, by omega, by omega, for_range (n := m) (fun i σ H' => ∃ (xs : List V) (rs : List Rw) (u w : Option V), σ = [some (.ref a), b, some (.int 3), some (.int 3), some (.int 5), f, some (.int m), some (.ref ea), some (.ref n), some (.ref rl), u, w, none] ∧ Same H0 H' ∧ H' ea = some (.lst (es.map V.int)) ∧ H' n = some (.lst (zs.map V.str)) ∧ H' rl = some (.lst xs) ∧ Paired (RowP g.K (fun l => l ≠ rl) H') xs rs ∧ (∀ (k : Nat) r, rs[k]? = some r → GoodRow (ownN zs m 3 k) 3 r) ∧ rs.length = i)
    ⟨[], [], none, none, rfl, Same.own sm nrl, by rw [upd_ne ner]; exact hE, by rw [upd_ne nnr]; exact hn, upd_same, .nil, (fun k r h => by simp at h), rfl⟩ ?_ ?_⟩
  · rintro i σ H1 hi ⟨xs, rs, u, w, rfl, sm1, hE1, hn1, hr1, hp1, ok, li⟩
    show t_la_4 g _ [some (.ref a), b, some (.int 3), some (.int 3), some (.int 5), f, some (.int m), some (.ref ea), some (.ref n), some (.ref rl), some (.int (0 + (i : Int))), w, none] H1
    refine ⟨_, rfl, _, rfl, by decide, by decide, fun D hD => ?_⟩
    refine lc_range (n := 3) (fun j H' => Same H1 H' ∧ H' D = some (.lst (((List.range j).map fun j => zs.getD (m * j + i) "").map V.str))) ⟨Same.new hD, upd_same⟩ ?_ ?_
    · rintro j H' hj ⟨s2, hd⟩
      have lt : m * j + i < zs.length := by
        rw [lz]
        have : m * (j + 1) ≤ m * 3 := Nat.mul_le_mul_left _ hj
        rw [Nat.mul_succ] at this
        rw [Nat.mul_comm 3 m]; omega
      have ei : ((m : Int) * (0 + (j : Int)) + (0 + (i : Int))) % ((zs.map V.str).length : Int) = ((m * j + i : Nat) : Int) := by
        rw [List.length_map, Int.zero_add, Int.zero_add, ← Int.natCast_mul, ← Int.natCast_add, ← Int.natCast_emod, Nat.mod_eq_of_lt lt]
      have axz : atI (zs.map V.str) ((m * j + i : Nat) : Int) = some (.str (zs.getD (m * j + i) "")) := atI_nat (by
        rw [List.getElem?_map, List.getD_eq_getElem?_getD, List.getElem?_eq_getElem lt]; rfl)
      refine ⟨rfl, e_yes ?_⟩
      refine ⟨_, rfl, _, rfl, _, rfl, _, _, rfl, rfl, .inl ⟨by omega, by omega⟩, _, rfl, _, _, rfl, rfl, .inl ⟨_, rfl, _, rfl, n, _, rfl, .inl (SqL.of (s2 _ _ hn1)), _, _, rfl, rfl, by rw [List.length_map]; omega, n, zs.map V.str, _, .str (zs.getD (m * j + i) ""), rfl, rfl, SqL.of (s2 _ _ hn1), by rw [ei]; exact axz, ?_⟩⟩
      refine ⟨_, hd, by rw [List.length_map, List.length_map, List.length_range]; exact small1000 (by omega), Same.own s2 hD, ?_⟩
      rw [upd_same, List.range_succ, List.map_append, List.map_append]; rfl
    · rintro H2 ⟨s2, hd⟩
      have hd' : H2 D = some (.lst ((ownN zs m 3 i).map V.str)) := hd
      have s02 := sm1.trans s2
      have hr2 := s2 _ _ hr1
      show t_la_5 g _ [some (.ref a), b, some (.int 3), some (.int 3), some (.int 5), f, some (.int m), some (.ref ea), some (.ref n), some (.ref rl), some (.int (0 + (i : Int))), some (.ref D), none] H2
      refine ⟨_, rfl, .inl ⟨rfl, _, SqL.of hr2⟩, _, rfl, _, rfl, _, _, rfl, rfl, a, ns, 1 + i, ?_, s02.seq ha, by omega, cellV ns (1 + i), rfl, fun p o po np => ?_⟩
      · show [V.ref a, V.int ((1 : Int) + (0 + (i : Int)))] = _
        rw [show (1 : Int) + (0 + (i : Int)) = ((1 + i : Nat) : Int) by omega]
      have s3 : Same H2 (upd H2 p o) := Same.new np
      have zn : ∀ z ∈ ownN zs m 3 i, IsName z := fun z hz' => by
        obtain ⟨j, _, hj⟩ := ownN_mem lz (by omega) hz'
        exact hz z (List.mem_of_getElem? hj)
      refine ⟨_, rfl, _, rfl, _, rfl, p, D, 3, 5, o, ownN zs m 3 i, rfl, upd_same, po, s3 _ _ hd', (ne_of_none hd' np).symm, (fun e => by cases e), zn, by show 3 ≤ 100; decide, by decide, by decide, by decide, by decide, fun v r o' H4 ch hp2 po2 hr hg => ?_⟩
      have s4 : Same H2 H4 := fun b o e => ch b o (s3 b o e) (by simpa using ne_of_none e np)
      have s14 := s2.trans s4
      have hr4 := s4 _ _ hr2
      have lx := hp1.length
      refine ⟨rl, _, _, rfl, rfl, hr4, small1000 (by omega), ?_⟩
      have hr' : RowP g.K (fun l => l ≠ rl) H4 v r := hr.imp fun l nl => (ne_of_none (s3 _ _ hr2) nl).symm
      refine ⟨xs ++ [v], rs ++ [r], _, _, rfl, Same.own (sm1.trans s14) nrl, by rw [upd_ne ner]; exact s14 _ _ hE1, by rw [upd_ne nnr]; exact s14 _ _ hn1, upd_same, paired_app (paired_mono (fun _ _ z => (z.mono s14).upd hr4) hp1) (.cons (hr'.upd hr4) .nil), fun k r' h' => ?_, by simp [li]⟩
      by_cases c : k < rs.length
      · rw [List.getElem?_append_left c] at h'
        exact ok k r' h'
      · have kl := (List.getElem?_eq_some_iff.mp h').1
        rw [List.length_append] at kl
        have ek : k = i := by simp at kl; omega
        rw [List.getElem?_append_right (by omega), show k - rs.length = 0 by omega] at h'
        simp at h'
        subst h'; subst ek
        exact hg
  · rintro σ H1 ⟨xs, rs, u, w, rfl, sm1, hE1, hn1, hr1, hp1, ok, li⟩
    show t_lr_4 g (endsQ Q) (some (V.ref a) :: b :: some (V.int 3) :: some (V.int 3) :: some (V.int 5) :: f :: some (V.int m) :: some (V.ref ea) :: some (V.ref n) :: some (V.ref rl) :: u :: [w, none]) H1
    refine pure_lr_4 sm1 hE1 le (by omega) ⟨xs, hr1, paired_mono (fun _ _ z => z.row) hp1⟩ fun t cl ks H' s' nt ncl ht hcl asc rng => ?_
    have sub : ∀ (k : Nat) r, rs[k]? = some r → GoodRow zs 3 r := fun k r hr => good_sub (ok k r hr) fun z hz' => by
      obtain ⟨j, _, hj⟩ := ownN_mem lz (by rw [← li]; exact (List.getElem?_eq_some_iff.mp hr).1) hz'
      exact List.mem_of_getElem? hj
    have subm : ∀ r ∈ rs, GoodRow zs 3 r := fun r hr => by
      obtain ⟨k, hk⟩ := List.mem_iff_getElem?.mp hr
      exact sub k r hk
    have w3 : ∀ r ∈ rs, (wordsOf r.2).length ≤ 8 := fun r hr => by
      obtain ⟨k, hk⟩ := List.mem_iff_getElem?.mp hr
      have := (ok k r hk).words
      have e : (ownN zs m 3 k).length = 3 := by unfold ownN; rw [List.length_map, List.length_range]
      omega
    have sw := sysWords_le subm
    refine q t rl cl rs ks H' (sm1.trans s') nt nrl ncl ht (RowsAt.mono s' ⟨xs, hr1, paired_mono (fun _ _ z => z.row) hp1⟩) hcl ⟨⟨by omega, by omega, fun r hr => (subm r hr).st, fun r hr => (subm r hr).okS hz, fun r hr => (subm r hr).fb, fun r hr => (subm r hr).l1, fun r hr => (subm r hr).l2, w3, fun r hr => Nat.le_trans (subm r hr).reach (by decide), by omega, asc, by rw [li]; exact rng⟩, fun i j r r' hi hj ne w hw hw' => ?_⟩
    have il := (List.getElem?_eq_some_iff.mp hi).1
    have jl := (List.getElem?_eq_some_iff.mp hj).1
    exact ownN_apart lz nd (by omega) (by omega) ne (good_word (ok i r hi) hw) (good_word (ok j r' hj) hw')
theorem pure_law_apart {g : Ga} {vs : List V} {H : Hp} {Q : VK} {E : XK} {N : List Str} (hN : N.length = 13) (h : sp_law_apart g vs H Q E) : t_law_apart g (endsQ Q) (L2.start N vs) H := by
  obtain ⟨a, ns, rfl, ha, q⟩ := h
  have e0 : L2.start N [.ref a, .int 3, .int 3, .int 3, .int 5] = [some (.ref a), some (.int 3), some (.int 3), some (.int 3), some (.int 5), none, none, none, none, none, none, none, none] := by
    unfold L2.start; rw [hN]; rfl
  rw [e0]
  have big : (100 : Int) ≤ 26 ^ 12 := by decide
  refine ⟨_, rfl, a, ns, 0, rfl, ha, by decide, cellV ns 0, rfl, fun p o po np => ?_⟩
  refine ⟨_, rfl, _, rfl, p, o, 3, rfl, upd_same, po, by omega, by omega, fun d1 o1 f0 f1 po1 => ?_⟩
  obtain ⟨d1, rfl⟩ := Int.eq_ofNat_of_zero_le f0
  refine ⟨_, _, rfl, rfl, ?_⟩
  rw [upd_upd]
  show t_la_1 g (endsQ Q) [some (.ref a), some (.int 3), some (.int 3), some (.int 3), some (.int 5), some (.ref p), some (.int ((1 : Int) + (d1 : Int))), none, none, none, none, none, none] (upd H p o1)
  rw [show (1 : Int) + (d1 : Int) = ((1 + d1 : Nat) : Int) by omega]
  have sm1 : Same H (upd H p o1) := Same.new np
  refine ⟨_, rfl, _, rfl, by omega, by omega, fun D hD => ?_⟩
  rw [Int.toNat_natCast]
  have pD : p ≠ D := ne_of_none upd_same hD
  have nD : H D = none := sm1.free hD
  refine lc_range (n := 1 + d1) (fun i H' => ∃ (es : List Int) (o' : HO), Same H H' ∧ H' p = some o' ∧ PoolO o' ∧ H' D = some (.lst (es.map V.int)) ∧ es.length = i) ⟨[], o1, Same.own sm1 nD, by rw [upd_ne pD]; exact upd_same, po1, upd_same, rfl⟩ ?_ ?_
  · rintro i H' hi ⟨es, o', sm', hp', po', hD', le⟩
    refine ⟨rfl, draw_c rfl hp' po' (by decide) (by decide) fun d2 o2 c2 po2 => ?_⟩
    refine ⟨_, by rw [upd_ne pD.symm]; exact hD', by rw [List.length_map]; exact small1000 (by omega), es ++ [(d2 : Int)], o2, Same.own (Same.own sm' np) nD, by rw [upd_ne pD]; exact upd_same, po2, by rw [upd_same, List.map_append]; rfl, by simp [le]⟩
  · rintro H2 ⟨es, o2, sm2, hp2, po2, hD2, le⟩
    show t_la_2 g (endsQ Q) [some (.ref a), some (.int 3), some (.int 3), some (.int 3), some (.int 5), some (.ref p), some (.int ((1 + d1 : Nat) : Int)), some (.ref D), none, none, none, none, none] H2
    refine ⟨_, rfl, _, rfl, _, rfl, _, _, rfl, rfl, .inl ⟨by decide, by decide⟩, p, o2, 3 * (1 + d1), by rw [Int.natCast_mul]; rfl, hp2, po2, by omega, fun n zs o4 H4 ch4 hp4 po4 nn hn4 zl hz nd => ?_⟩
    have sm4 : Same H H4 := fun b u e => ch4 b u (sm2 b u e) (by simpa using ne_of_none e np)
    have hD4 : H4 D = some (.lst (es.map V.int)) := ch4 _ _ hD2 (by simpa using pD.symm)
    exact pure_la_3 ha sm4 hD4 le (by omega) (by omega) hn4 zl hz nd q
end Sd
namespace Sd
open PySem PySem.Spec PyProof.Rows L2
def sp_k24_law (g : Ga) : Sp := fun vs H Q _ => ∃ (a : Addr) (ns : List Int), vs = [.ref a] ∧ SqL g.K H a (ns.map V.int) ∧ ns.length ≤ 63 ∧ ∀ H', Q (.bl true) H'
def t_k24_5 (g : Ga) : TS := (tIfS (tOr (tNot (tB (tCall (sp_k24_holds g) [] E0 (tCons (tVar 1) (tCons (tOp (rIxT g.K) (tVar 2) (tC (.int 0))) (tCons (tOp (rIxT g.K) (tVar 5) (tC (.int 0))) (tCons (tVar 6) tNil))))))) (tNot (tB (tCall (sp_k24_holds g) [] E0 (tCons (tVar 1) (tCons (tOp (rIxT g.K) (tVar 2) (tC (.int 0))) (tCons (tOp (rIxT g.K) (tVar 5) (tC (.int 0))) (tCons (tOp (rIxT g.K) (tVar 5) (tC (.int 0))) tNil)))))))) (tRet (tC (.bl false))) tNext)
def t_k24_4 (g : Ga) : TS := (tSeq (tIfS (tNot (tB (tCall (sp_k24_holds g) [] E0 (tCons (tVar 1) (tCons (tOp (rIxT g.K) (tVar 2) (tC (.int 0))) (tCons (tOp (rIxT g.K) (tVar 5) (tC (.int 0))) (tCons (tOp (rIxT g.K) (tVar 5) (tC (.int 1))) tNil))))))) (tRet (tC (.bl false))) tNext) (t_k24_5 g))
def t_k24_3 (g : Ga) : TS := (tSeq (tAsg (tOp rAdd (tOp (rIxT g.K) (tVar 5) (tC (.int 0))) (tCall (sp_law_draw g) [] E0 (tCons (tVar 3) (tCons (tOp rAdd (tOp rSub (tCB (rLenS g.K) (tCons (tOp (rIxT g.K) (tVar 2) (tC (.int 0))) tNil)) (tOp (rIxT g.K) (tVar 5) (tC (.int 0)))) (tC (.int 1))) tNil)))) (gName 6)) (t_k24_4 g))
def t_k24_2 (g : Ga) : TS := (tSeq (tAsg (tCall (sp_law_cut g) [] E0 (tCons (tVar 3) (tCons (tVar 2) tNil))) (gName 5)) (t_k24_3 g))
def t_k24_1 (g : Ga) : TS := (tSeq (tFor (iRng1 (tCons (tC (.int 3)) tNil)) (gName 4) (t_k24_2 g)) (tRet (tC (.bl true))))
def t_k24_law (g : Ga) : TS := (tSeq (tAsg (tCall (sp_law_apart g) [] E0 (tCons (tVar 0) (tCons (tC (.int 3)) (tCons (tC (.int 3)) (tCons (tC (.int 3)) (tCons (tC (.int 5)) tNil)))))) (gName 1)) (tSeq (tAsg (tCall (sp_law_walk g) [] E0 (tCons (tOp (rIxT g.K) (tVar 1) (tC (.int 0))) (tCons (tSl (rSlL g.K) (tVar 0) (tPart (tC (.int 5))) (tPart (tC (.int 45)))) tNil))) (gName 2)) (tSeq (tAsg (tCall (sp_law_pool g) [] E0 (tCons (tCall (sp_law_cell g) [] E0 (tCons (tVar 0) (tCons (tC (.int 4)) tNil))) tNil)) (gName 3)) (t_k24_1 g))))
structure ApB (g : Ga) (B : Hp) (pt rl cl wt rt pl : Addr) (rs : List Rw) (ks : List Int) (us xs : List V) (ms : List Move) (ps : List (List Int)) : Prop where
  hpt : B pt = some (.tup [.ref rl, .ref cl])
  hr : RowsAt g B rl rs
  hcl : B cl = some (.lst (ks.map V.int))
  dr : ApartRows rs ks
  hwt : B wt = some (.tup [.ref rt, .ref pl])
  hu : SqT g.K B rt us
  hm : Paired (MoveAt g.K B) us ms
  hp : B pl = some (.lst xs)
  hs : Paired (StAt g.K B) xs ps
  wk : WalkOk rs ps ms
  few : ms.length ≤ 1000
theorem ApB.holds {g : Ga} {B H : Hp} {Q : VK} {E : XK} {σ : L2.St} {ta : TA} {pt rl cl wt rt pl : Addr} {rs : List Rw} {ks : List Int} {us xs : List V} {ms : List Move} {ps : List (List Int)} (h : ApB g B pt rl cl wt rt pl rs ks us xs ms ps) (s : Same B H) {f l : Nat} (fl : f ≤ l) (lm : l ≤ ms.length) (ha : ∀ R : List V → Hp → Prop, R [.ref pt, .ref rt, .int f, .int l] H → ta σ H R) (q : ∀ H', Same H H' → Q (.bl true) H') : tCall (sp_k24_holds g) [] E ta σ H Q :=
  ha _ ⟨pt, rl, cl, rt, f, l, rs, ks, us, ms, ps, rfl, s _ _ h.hpt, h.hr.mono s, s _ _ h.hcl, h.dr.sys, h.dr.ap, Same.tup s h.hu, paired_mono (fun _ _ z => z.mono s) h.hm, h.wk, h.few, fl, lm, q⟩
theorem s_or1 {te te2 : TE} {a : TS} {D : Ends} {σ : L2.St} {H : Hp} (h : te σ H fun v H1 => ∃ k, v = .bl k ∧ if (!k) = true then (if true = true then a D σ H1 else D.nx σ H1) else te2 σ H1 fun v2 H2 => ∃ k2, v2 = .bl k2 ∧ if (!k2) = true then a D σ H2 else D.nx σ H2) : tIfS (tOr (tNot (tB te)) (tNot (tB te2))) a tNext D σ H := h
theorem pure_k24_2 {g : Ga} {B H : Hp} {D : Ends} {p0 p4 p5 p6 : Option V} {pp pt rl cl wt rt pl : Addr} {o : HO} {rs : List Rw} {ks : List Int} {us xs : List V} {ms : List Move} {ps : List (List Int)} (h : ApB g B pt rl cl wt rt pl rs ks us xs ms ps) (s : Same B H) (npp : B pp = none) (hpp : H pp = some o) (po : PoolO o)
    (q : ∀ H' o' p5 p6, Same B H' → H' pp = some o' → PoolO o' → D.nx [p0, some (.ref pt), some (.ref wt), some (.ref pp), p4, p5, p6] H') :
    t_k24_2 g D [p0, some (.ref pt), some (.ref wt), some (.ref pp), p4, p5, p6] H := by
  have wl := h.wk.len
  have few := h.few
  have lu := h.hm.length
  have big : (10000 : Int) ≤ 26 ^ 12 := by decide
  have npl : pl ≠ pp := fun z => by rw [← z, h.hp] at npp; cases npp
  refine ⟨_, rfl, _, rfl, pp, wt, rt, pl, o, xs, ps, rfl, hpp, po, s _ _ h.hwt, s _ _ h.hp, npl, paired_mono (fun _ _ z => z.mono s) h.hs, by omega, by omega, fun t f l o1 H1 ch hp1 po1 ht fl lp back => ?_⟩
  have s1 := Same.ch s npp ch
  show t_k24_3 g D [p0, some (.ref pt), some (.ref wt), some (.ref pp), p4, some (.ref t), p6] H1
  refine ⟨_, rfl, t, _, _, .int f, rfl, rfl, SqT.of ht, rfl, _, rfl, _, rfl, wt, _, _, .ref rt, rfl, rfl, SqT.of (s1 _ _ h.hwt), rfl, rt, us, rfl, .inr (Same.tup s1 h.hu), _, rfl, t, _, _, .int f, rfl, rfl, SqT.of ht, rfl, _, _, rfl, rfl, _, _, rfl, rfl, pp, o1, _, rfl, hp1, po1, by omega, by omega, fun d o2 d0 d1 po2 => ?_⟩
  obtain ⟨k, rfl⟩ := Int.eq_ofNat_of_zero_le d0
  have nt : t ≠ pp := fun z => by
    rw [z, hp1] at ht
    obtain ⟨ys, e⟩ := pool_lst po1
    rw [e] at ht; cases ht
  refine ⟨_, _, rfl, rfl, ?_⟩
  have s2 : Same B (upd H1 pp o2) := Same.own s1 npp
  have ht2 : (upd H1 pp o2) t = some (.tup [.int f, .int l]) := by rw [upd_ne nt]; exact ht
  have hp2 : (upd H1 pp o2) pp = some o2 := upd_same
  generalize upd H1 pp o2 = H2 at s2 ht2 hp2
  show t_k24_4 g D [p0, some (.ref pt), some (.ref wt), some (.ref pp), p4, some (.ref t), some (.int ((f : Int) + (k : Int)))] H2
  rw [show (f : Int) + (k : Int) = ((f + k : Nat) : Int) by omega]
  refine s_nif (h.holds s2 fl (by omega) (fun R r => ⟨_, rfl, _, rfl, wt, _, _, .ref rt, rfl, rfl, SqT.of (s2 _ _ h.hwt), rfl, _, rfl, t, _, _, .int f, rfl, rfl, SqT.of ht2, rfl, _, rfl, t, _, _, .int l, rfl, rfl, SqT.of ht2, rfl, r⟩) fun H3 s3 => ⟨true, rfl, iteF ?_⟩)
  have s03 := s2.trans s3
  have ht3 := s3 _ _ ht2
  show t_k24_5 g D [p0, some (.ref pt), some (.ref wt), some (.ref pp), p4, some (.ref t), some (.int ((f + k : Nat) : Int))] H3
  refine s_or1 (h.holds s03 (f := f) (l := f + k) (by omega) (by omega) (fun R r => ⟨_, rfl, _, rfl, wt, _, _, .ref rt, rfl, rfl, SqT.of (s03 _ _ h.hwt), rfl, _, rfl, t, _, _, .int f, rfl, rfl, SqT.of ht3, rfl, _, rfl, r⟩) fun H4 s4 => ⟨true, rfl, iteF ?_⟩)
  have s04 := s03.trans s4
  have ht4 := s4 _ _ ht3
  refine h.holds s04 (Nat.le_refl f) (by omega) (fun R r => ⟨_, rfl, _, rfl, wt, _, _, .ref rt, rfl, rfl, SqT.of (s04 _ _ h.hwt), rfl, _, rfl, t, _, _, .int f, rfl, rfl, SqT.of ht4, rfl, _, rfl, t, _, _, .int f, rfl, rfl, SqT.of ht4, rfl, r⟩) fun H5 s5 => ⟨true, rfl, iteF (q H5 o2 _ _ (s04.trans s5) (s5 _ _ (s4 _ _ (s3 _ _ hp2))) po2)⟩
theorem pure_k24_law {g : Ga} {vs : List V} {H : Hp} {Q : VK} {E : XK} {N : List Str} (hN : N.length = 7) (h : sp_k24_law g vs H Q E) : t_k24_law g (endsQ Q) (L2.start N vs) H := by
  obtain ⟨a, ns, rfl, ha, n63, q⟩ := h
  have e0 : L2.start N [.ref a] = [some (.ref a), none, none, none, none, none, none] := by unfold L2.start; rw [hN]; rfl
  rw [e0]
  refine ⟨_, rfl, a, ns, rfl, ha, fun pt rl cl rs ks H1 s1 npt nrl ncl hpt hr hcl dr => ?_⟩
  have sm := dr.sys.small
  obtain ⟨cs, ecs, lcs⟩ := cut_ints ns (some 5) (some 45)
  refine ⟨_, rfl, pt, _, _, .ref rl, rfl, rfl, SqT.of hpt, rfl, _, rfl, _, rfl, _, rfl, a, _, rfl, s1.seq ha, fun c hc => ?_⟩
  have s3 : Same H1 (upd H1 c (.lst (cutV (ns.map V.int) (some 5) (some 45)))) := Same.new hc
  refine ⟨rl, c, rs, cs, rfl, hr.mono s3, SqL.of (by rw [upd_same, ecs]), by omega, sm, dr.sys.l2, fun wt rt pl us xs ms ps H4 s4 hwt hu hm hp hs wk ml => ?_⟩
  have s14 := s3.trans s4
  have wb : ApB g H4 pt rl cl wt rt pl rs ks us xs ms ps := ⟨s14 _ _ hpt, hr.mono s14, s14 _ _ hcl, dr, hwt, hu, hm, hp, hs, wk, by omega⟩
  refine ⟨_, rfl, a, ns, 4, rfl, (s1.trans s14).seq ha, by decide, _, rfl, fun pp o po npp => ?_⟩
  have s5 : Same H4 (upd H4 pp o) := Same.new npp
  show t_k24_1 g (endsQ Q) [some (.ref a), some (.ref pt), some (.ref wt), some (.ref pp), none, none, none] (upd H4 pp o)
  refine ⟨_, rfl, by decide, by decide, for_range (n := 3) (fun i σ H' => ∃ p4 p5 p6 : Option V, σ = [some (.ref a), some (.ref pt), some (.ref wt), some (.ref pp), p4, p5, p6] ∧ Same H4 H' ∧ ∃ o, H' pp = some o ∧ PoolO o) ⟨none, none, none, rfl, s5, o, upd_same, po⟩ ?_ ?_⟩
  · rintro i σ H' hi ⟨p4, p5, p6, rfl, s6, o1, hp1, po1⟩
    exact pure_k24_2 wb s6 npp hp1 po1 fun H2 o2 p5 p6 s2 hp2 po2 => ⟨_, _, _, rfl, s2, o2, hp2, po2⟩
  · rintro σ H' ⟨p4, p5, p6, rfl, s6, o1, hp1, po1⟩
    exact q H'
end Sd
namespace Sd
open PySem PySem.Spec PyProof.Rows L2
/-! ### System.behind -/
theorem check_ok {g : Ga} {σ : L2.St} {H : Hp} {E : XK} {ta : TA} {Q : VK} {x : Addr} {v : V} {rs : List Rw} {ds sts : List Int} (ha : ∀ R : List V → Hp → Prop, R [.ref x, v] H → ta σ H R) (hx : SysAt g H x rs ds) (sm : SmallR rs) (hv : StAt g.K H v sts) (sti : StandI rs sts) (q : ∀ w H', Same H H' → Q w H') : tCall (sp_check_standing g) [] E ta σ H Q := by
  obtain ⟨a, rfl, ha0⟩ := hv
  have n4 := sm.n4
  exact ha _ ⟨x, .ref a, rs, ds, rfl, hx, by omega, .inr ⟨a, sts.map V.int, rfl, SqT.of ha0, .inr ⟨by rw [List.length_map]; exact sti.len, sts.map some, items_int sts, fun n => absurd sti.st n, fun _ H1 s1 => q _ H1 s1⟩⟩⟩
def sp_System_behind (g : Ga) : Sp := fun vs H Q _ => ∃ (x : Addr) (u v : V) (rs : List Rw) (ds sts : List Int) (m : Move), vs = [.ref x, u, v] ∧ SysAt g H x rs ds ∧ SmallR rs ∧ StAt g.K H u sts ∧ StandI rs sts ∧ MoveAt g.K H v m ∧ m ∈ movesOf rs sts ∧ ∀ w H', Same H H' → StAt g.K H' w (behindOf rs sts m.2) → Q w H'
def t_sb_2 (g : Ga) (E : XK) : TS := (tRet (tCall (sp_led_to g) [] E0 (tCons (tVar 0) (tCons (tVar 1) (tCons (tVar 2) tNil)))))
def t_sb_1 (g : Ga) (E : XK) : TS := (tSeq (tIfS (tNot (tB (tCall (sp_is_move g) [] E0 (tCons (tVar 0) (tCons (tVar 1) (tCons (tVar 2) tNil)))))) (tRaiseX g.cBadMove "value" E (tCons (tVar 2) tNil)) tNext) (t_sb_2 g E))
def t_System_behind (g : Ga) (E : XK) : TS := (tSeq (tDrop (tCall (sp_check_standing g) [] E (tCons (tVar 0) (tCons (tVar 1) tNil)))) (t_sb_1 g E))
theorem pure_System_behind {g : Ga} {vs : List V} {H : Hp} {Q : VK} {E : XK} {N : List Str} (hN : N.length = 3) (h : sp_System_behind g vs H Q E) : t_System_behind g E (endsQ Q) (L2.start N vs) H := by
  obtain ⟨x, u, v, rs, ds, sts, m, rfl, hx, sm, hu, sti, hv, mm, q⟩ := h
  have e0 : L2.start N [.ref x, u, v] = [some (.ref x), some u, some v] := by unfold L2.start; rw [hN]; rfl
  rw [e0]
  have n4 := sm.n4
  obtain ⟨vl, val⟩ := valid_of mm sti.len
  refine s_drop (check_ok (fun R r => ⟨_, rfl, _, rfl, r⟩) hx sm hu sti fun w H1 s1 => ?_)
  show t_sb_1 g E (endsQ Q) [some (.ref x), some u, some v] H1
  refine ⟨_, rfl, _, rfl, _, rfl, x, u, v, rs, ds, sts, m, rfl, hx.mono s1, hu.mono s1, hv.mono s1, sti.len, sm, mm, fun H2 s2 => ⟨true, rfl, iteF ?_⟩⟩
  have s12 := s1.trans s2
  show t_sb_2 g E (endsQ Q) [some (.ref x), some u, some v] H2
  exact ⟨_, rfl, _, rfl, _, rfl, x, u, v, rs, ds, sts, m, rfl, hx.mono s12, hu.mono s12, hv.mono s12, sti.len, vl, val, by omega, fun w H3 s3 hw => q w H3 (s12.trans s3) hw⟩
/-! ### System.started_at -/
def restart (rs : List Rw) (sts : List Int) : List Rw := List.zipWith (fun r s => (s, r.2)) rs sts
theorem restart_len {rs : List Rw} {sts : List Int} (h : sts.length = rs.length) : (restart rs sts).length = rs.length := by unfold restart; rw [List.length_zipWith]; omega
theorem restart_get {rs : List Rw} {sts : List Int} {i : Nat} {r : Rw} {s : Int} (hr : rs[i]? = some r) (hs : sts[i]? = some s) : (restart rs sts)[i]? = some (s, r.2) := by
  unfold restart
  rw [List.getElem?_zipWith, hr, hs]
theorem restart_st : ∀ {rs : List Rw} {sts : List Int}, sts.length = rs.length → (restart rs sts).map (·.1) = sts
  | [], [], _ => rfl
  | [], _ :: _, h => by simp at h
  | _ :: _, [], h => by simp at h
  | r :: rs, s :: sts, h => by
    unfold restart
    rw [List.zipWith_cons_cons, List.map_cons]
    congr 1
    exact restart_st (by simpa using h)
theorem restart_steps : ∀ {rs : List Rw} {sts : List Int}, sts.length = rs.length → (restart rs sts).map (·.2) = rs.map (·.2)
  | [], [], _ => rfl
  | [], _ :: _, h => by simp at h
  | _ :: _, [], h => by simp at h
  | r :: rs, s :: sts, h => by
    unfold restart
    rw [List.zipWith_cons_cons, List.map_cons, List.map_cons]
    congr 1
    exact restart_steps (by simpa using h)
theorem words_of_steps {rs rs' : List Rw} (h : rs.map (·.2) = rs'.map (·.2)) : sysWords rs = sysWords rs' := by
  unfold sysWords
  have : ∀ rs : List Rw, (rs.flatMap fun r => wordsOf r.2) = (rs.map (·.2)).flatMap wordsOf := fun rs => by rw [List.flatMap_map]
  rw [this rs, this rs', h]
theorem nums_of_steps (p : List Int) (w : Str) : ∀ {rs rs' : List Rw}, rs.map (·.2) = rs'.map (·.2) → numsAt rs p w = numsAt rs' p w := fun {rs rs'} h => by
  have : ∀ rs : List Rw, numsAt rs p w = List.zipWith (fun L st => numbersOf L st w) (rs.map (·.2)) p := fun rs => by unfold numsAt; rw [List.zipWith_map_left]
  rw [this rs, this rs', h]
/-- moves depend on the steps alone -/
theorem moves_of_steps {rs rs' : List Rw} (h : rs.map (·.2) = rs'.map (·.2)) (p : List Int) : movesOf rs p = movesOf rs' p := by
  unfold movesOf movesW
  rw [words_of_steps h]
  simp only [nums_of_steps p _ h]
theorem able_of_steps {rs rs' : List Rw} (h : rs.map (·.2) = rs'.map (·.2)) (p : List Int) : ableOf rs p = ableOf rs' p := by
  have hl : rs.length = rs'.length := by have := congrArg List.length h; simpa using this
  unfold ableOf ableN
  rw [moves_of_steps h, hl]
theorem reach_sub {L : List Step} {s0 s : Int} (h : s ∈ reachL L s0) : (reachL L s).length ≤ (reachL L s0).length := nodup_leG _ _ (ascI_nodup (asc_reachL L s)) fun x hx => by
  have h0 := mem_reachL.mp h
  have h1 := mem_reachL.mp hx
  refine mem_reachL.mpr ?_
  clear hx
  induction h1 with
  | base => exact h0
  | step a b ih => exact .step ih b
theorem reach_rng {L : List Step} {s0 s : Int} (h0 : 0 ≤ s0 ∧ s0 ≤ 99) (ok : ∀ t ∈ L, okStep t) (h : s ∈ reachL L s0) : 0 ≤ s ∧ s ≤ 99 := by
  cases mem_reachL.mp h with
  | base => exact h0
  | step a b => exact (ok _ b).2.2
theorem SysRows.restart {rs : List Rw} {ks sts : List Int} (h : SysRows rs ks) (st : StandI rs sts) : SysRows (restart rs sts) ks := by
  have hl := restart_len (rs := rs) (sts := sts) st.len
  have each : ∀ x ∈ Sd.restart rs sts, ∃ r ∈ rs, x.2 = r.2 ∧ x.1 ∈ reachL r.2 r.1 := fun x hx => by
    obtain ⟨i, hi⟩ := List.mem_iff_getElem?.mp hx
    have il := (List.getElem?_eq_some_iff.mp hi).1
    rw [hl] at il
    have hr : rs[i]? = some rs[i] := List.getElem?_eq_getElem il
    have hlen := st.len
    have hs : sts[i]? = some (sts[i]'(by omega)) := List.getElem?_eq_getElem _
    rw [restart_get hr hs] at hi
    cases hi
    refine ⟨rs[i], List.mem_of_getElem? hr, rfl, ?_⟩
    obtain ⟨z, hz, m⟩ := st.st i _ hr
    rw [List.getElem?_map, hs] at hz
    simp at hz
    rw [hz]; exact m
  have es := restart_steps (rs := rs) (sts := sts) st.len
  refine ⟨by rw [hl]; exact h.n1, by rw [hl]; exact h.n4, fun x hx => ?_, fun x hx => ?_, fun x hx => ?_, fun x hx => ?_, fun x hx => ?_, fun x hx => ?_, fun x hx => ?_, by rw [words_of_steps es]; exact h.w12, h.asc, by rw [hl]; exact h.rng⟩
  all_goals obtain ⟨r, hr, e2, e1⟩ := each x hx
  · exact reach_rng (h.st r hr) (h.ok r hr) e1
  · rw [e2]; exact h.ok r hr
  · rw [e2]; exact h.fb r hr
  · rw [e2]; exact h.l1 r hr
  · rw [e2]; exact h.l2 r hr
  · rw [e2]; exact h.w8 r hr
  · rw [e2]; exact Nat.le_trans (reach_sub e1) (h.r8 r hr)
def sp_System_started_at (g : Ga) : Sp := fun vs H Q _ => ∃ (x : Addr) (v : V) (rs : List Rw) (ds sts : List Int), vs = [.ref x, v] ∧ SysAt g H x rs ds ∧ SysRows rs ds ∧ StAt g.K H v sts ∧ StandI rs sts ∧ ∀ y H', Same H H' → H y = none → SysAt g H' y (restart rs sts) ds → Q (.ref y) H'
def t_sa_2 (g : Ga) (E : XK) : TS := (tRet (tMake g.cSystem (sp_System_init g) [] E (tCons (tVar 2) (tCons (tFld g.K (tVar 0) "diligent") tNil))))
def t_sa_1 (g : Ga) (E : XK) : TS := (tSeq (tAsg (tLc (iEnumT g.K (tCons (tFld g.K (tVar 0) "hands") tNil)) (gTup g.K 2 (gCons (gName 3) (gCons (gName 4) gNil))) tYes (tMake g.cHand (sp_Hand_init g) [] E0 (tCons (tOp (rIxT g.K) (tVar 1) (tVar 3)) (tCons (tFld g.K (tVar 4) "steps") tNil))) [3, 4]) (gName 2)) (t_sa_2 g E))
def t_System_started_at (g : Ga) (E : XK) : TS := (tSeq (tDrop (tCall (sp_check_standing g) [] E (tCons (tVar 0) (tCons (tVar 1) tNil)))) (t_sa_1 g E))
theorem pure_System_started_at {g : Ga} {vs : List V} {H : Hp} {Q : VK} {E : XK} {N : List Str} (TH : HandC g) (T : SysC g) (hN : N.length = 5) (h : sp_System_started_at g vs H Q E) : t_System_started_at g E (endsQ Q) (L2.start N vs) H := by
  obtain ⟨x, v, rs, ds, sts, rfl, hx, sr, hv, sti, q⟩ := h
  have e0 : L2.start N [.ref x, v] = [some (.ref x), some v, none, none, none] := by unfold L2.start; rw [hN]; rfl
  rw [e0]
  have sm := sr.small
  have n4 := sm.n4
  have lr := restart_len (rs := rs) sti.len
  have rr := sr.restart sti
  refine s_drop (check_ok (fun R r => ⟨_, rfl, _, rfl, r⟩) hx sm hv sti fun w H1 s1 => ?_)
  show t_sa_1 g E (endsQ Q) [some (.ref x), some v, none, none, none] H1
  obtain ⟨dx, hh, d', w', s', hs, g1, g2, g3, g4, g5, g6⟩ := (hx.mono s1).ex
  obtain ⟨va, rfl, hva⟩ := hv.mono s1
  have lh := g3.length
  refine ⟨_, rfl, x, _, dx, _, _, rfl, g1, T.cl, T.n1, sfld_hands, hh, hs, rfl, g2, fun D hD => ?_⟩
  refine lp_enumT (K := g.K) (a := hh) (xs := hs) (fun i H' => Same H1 H' ∧ ∃ ys, H' D = some (.lst ys) ∧ Paired (HandR g H') ys ((restart rs sts).take i)) ⟨Same.new hD, [], upd_same, .nil⟩ (fun i H' _ z => Same.tup z.1 g2) ?_ ?_
  · rintro i y Ta H' hy ⟨s2, ys, hys, hps⟩ nT
    obtain ⟨r, hr, b, rfl, hb⟩ := paired_get g3 hy
    have il := (List.getElem?_eq_some_iff.mp hr).1
    have hlen := sti.len
    have hst : sts[i]? = some (sts[i]'(by omega)) := List.getElem?_eq_getElem _
    have hre := restart_get hr hst
    have rm := List.mem_of_getElem? hre
    have s3 : Same H' (upd H' Ta (.tup [.int (i : Nat), .ref b])) := Same.new nT
    have s23 := s2.trans s3
    obtain ⟨dy, p1, q1, r1, zs, k1, k2, k3, k4, k5⟩ := (HandAt.mono s23 hb).ex
    have axs : atI (sts.map V.int) ((i : Nat) : Int) = some (.int (sts[i]'(by omega))) := atI_nat (by rw [List.getElem?_map, hst]; rfl)
    have ly := hps.length
    rw [List.length_take] at ly
    refine ⟨Ta, _, rfl, SqT.of upd_same, rfl, _, _, rfl, _, _, rfl, rfl, rfl, e_yes ?_⟩
    refine make_hand (ts := tOp (rIxT g.K) (tVar 1) (tVar 3)) (tl := tFld g.K (tVar 4) "steps") (xs := zs) (L := r.2) (s0 := sts[i]'(by omega)) (fun R r => ⟨_, rfl, _, rfl, va, _, _, _, rfl, rfl, SqT.of (s23 _ _ hva), axs, _, rfl, b, _, dy, _, _, rfl, k1, TH.cl, TH.n2, fld_steps, r⟩) (rr.st (sts[i]'(by omega), r.2) rm) ⟨p1, rfl, .inr k2⟩ k3 (rr.ok (sts[i]'(by omega), r.2) rm) (rr.fb (sts[i]'(by omega), r.2) rm) (rr.l1 (sts[i]'(by omega), r.2) rm) (rr.l2 (sts[i]'(by omega), r.2) rm) (rr.w8 (sts[i]'(by omega), r.2) rm) (rr.r8 (sts[i]'(by omega), r.2) rm) fun z H4 s4 nz hz => ?_
    have hy4 := (s3.trans s4) _ _ hys
    refine ⟨ys, hy4, small1000 (by omega), Same.own (s23.trans s4) hD, ys ++ [.ref z], upd_same, ?_⟩
    rw [List.take_add_one, hre, Option.toList_some]
    exact paired_app (paired_mono (fun _ _ ⟨a, e, z⟩ => ⟨a, e, HandAt.upd hy4 (HandAt.mono (s3.trans s4) z)⟩) hps) (.cons ⟨z, rfl, HandAt.upd hy4 hz⟩ .nil)
  · rintro H' ⟨s2, ys, hys, hps⟩
    rw [lh, ← lr, List.take_length] at hps
    show t_sa_2 g E (endsQ Q) [some (.ref x), some (.ref va), some (.ref D), none, none] H'
    have lds : ds.length ≤ 1000 := by have := asc_len sr.asc sr.rng; omega
    refine s_rt (make_sys (v := .ref D) (w := .ref d') (xs := ys) (rs := restart rs sts) (ds := ds) (fun R r => ⟨_, rfl, _, rfl, x, _, dx, _, _, rfl, s2 _ _ g1, T.cl, T.n2, sfld_diligent, r⟩) ⟨D, rfl, .inl (SqL.of hys)⟩ hps rr.n1 rr.n4 rr.w8 rr.w12 (.inr ⟨ds, ⟨d', rfl, .inr (Same.tup s2 g4)⟩, lds, ascI_nodup sr.asc, rr.rng, sr.asc, fun _ => Iff.rfl⟩) fun y H3 s3 ny hy => q y H3 (s1.trans (s2.trans s3)) ((s1.trans s2).free ny) hy)
end Sd
namespace Sd
open PySem PySem.Spec PyProof.Rows L2
/-! ### moves are all different, and counted -/
theorem numbers_nodup (L : List Step) (st : Int) (w : Str) : (numbersOf L st w).Nodup := by
  unfold numbersOf
  split
  · refine List.Pairwise.map _ ?_ (List.Pairwise.filter _ List.nodup_range)
    intro a b h e
    exact h (by have := Option.some.inj e; omega)
  · simp
theorem stepL_nodup {ls : List (List (Option Int))} {ns : List (Option Int)} (h1 : ls.Nodup) (h2 : ns.Nodup) : (stepL ls ns).Nodup := by
  unfold stepL
  refine List.pairwise_flatMap.mpr ⟨fun l _ => ?_, h1.imp fun {a b} ne x hx y hy e => ?_⟩
  · refine List.Pairwise.map _ ?_ h2
    intro a b h e
    exact h (by simpa using e)
  · obtain ⟨n, _, rfl⟩ := List.mem_map.mp hx
    obtain ⟨n', _, rfl⟩ := List.mem_map.mp hy
    exact ne (List.append_inj_left' e rfl)
theorem lines_nodup : ∀ {nums : List (List (Option Int))} (k : Nat), nums.length = k → (∀ n ∈ nums, n.Nodup) → (linesOf nums).Nodup := by
  intro nums k
  induction k generalizing nums with
  | zero => intro h _; rw [List.length_eq_zero_iff.mp h]; simp [linesOf]
  | succ k ih =>
    intro h nd
    have nn : nums ≠ [] := fun e => by rw [e] at h; simp at h
    have e := List.dropLast_concat_getLast nn
    rw [← e, linesOf_snoc]
    exact stepL_nodup (ih (by rw [List.length_dropLast]; omega) fun n hn => nd n (List.dropLast_subset _ hn)) (nd _ (List.getLast_mem nn))
theorem nums_nodup {rs : List Rw} {p : List Int} (pl : p.length = rs.length) (w : Str) : ∀ n ∈ numsAt rs p w, n.Nodup := fun n hn => by
  obtain ⟨j, hj⟩ := List.mem_iff_getElem?.mp hn
  have jl := (List.getElem?_eq_some_iff.mp hj).1
  rw [nums_len pl] at jl
  rw [nums_at (List.getElem?_eq_getElem jl) (List.getElem?_eq_getElem (show j < p.length by omega))] at hj
  cases hj
  exact numbers_nodup _ _ _
theorem asc_nodupS {l : List Str} (h : Asc l) : l.Nodup := h.imp fun {a b} k e => by subst e; exact ltT_irr _ k
theorem moves_nodup {rs : List Rw} {p : List Int} (pl : p.length = rs.length) : (movesOf rs p).Nodup := by
  unfold movesOf
  refine List.pairwise_flatMap.mpr ⟨fun w _ => ?_, (asc_nodupS (asc_uniq _)).imp fun {a b} ne x hx y hy e => ?_⟩
  · refine List.Pairwise.map _ ?_ (lines_nodup _ rfl (nums_nodup pl w))
    intro a b h e
    exact h (by simpa using e)
  · obtain ⟨n, _, rfl⟩ := List.mem_map.mp hx
    obtain ⟨n', _, rfl⟩ := List.mem_map.mp hy
    exact ne (by simpa using congrArg Prod.fst e)
theorem stepL_prod (ls : List (List (Option Int))) (ns : List (Option Int)) : (stepL ls ns).length = ls.length * ns.length := by
  unfold stepL
  exact flat_const (fun a => by rw [List.length_map]) _
theorem lines_take {nums : List (List (Option Int))} {i : Nat} {n : List (Option Int)} (h : nums[i]? = some n) : (linesOf (nums.take (i + 1))).length = (linesOf (nums.take i)).length * n.length := by
  rw [List.take_add_one, h, Option.toList_some, linesOf_snoc, stepL_prod]
theorem lines_pow {nums : List (List (Option Int))} (h4 : ∀ n ∈ nums, n.length ≤ 4) : ∀ i : Nat, (linesOf (nums.take i)).length ≤ 4 ^ i
  | 0 => by simp [linesOf]
  | i + 1 => by
    have ih := lines_pow h4 i
    cases e : nums[i]? with
    | none =>
      have ll : nums.length ≤ i := List.getElem?_eq_none_iff.mp e
      rw [List.take_of_length_le (by omega)]
      rw [List.take_of_length_le ll] at ih
      exact Nat.le_trans ih (Nat.pow_le_pow_right (by decide) (by omega))
    | some n =>
      rw [lines_take e, Nat.pow_succ]
      exact Nat.mul_le_mul ih (h4 n (List.mem_of_getElem? e))
theorem nums_four {rs : List Rw} (sm : SmallR rs) {p : List Int} (pl : p.length = rs.length) (w : Str) : ∀ n ∈ numsAt rs p w, n.length ≤ 4 := fun n hn => by
  obtain ⟨j, hj⟩ := List.mem_iff_getElem?.mp hn
  have jl := (List.getElem?_eq_some_iff.mp hj).1
  rw [nums_len pl] at jl
  have hr : rs[j]? = some rs[j] := List.getElem?_eq_getElem jl
  rw [nums_at hr (List.getElem?_eq_getElem (show j < p.length by omega))] at hj
  cases hj
  exact sm.nu _ (List.mem_of_getElem? hr) _ _
theorem movesW64 {rs : List Rw} (sm : SmallR rs) (n3 : rs.length ≤ 3) {p : List Int} (pl : p.length = rs.length) (w : Str) : (movesW rs p w).length ≤ 64 := by
  unfold movesW
  rw [List.length_map]
  have := lines_pow (nums_four sm pl w) rs.length
  rw [List.take_of_length_le (by rw [nums_len pl]; omega)] at this
  exact Nat.le_trans this (Nat.le_trans (Nat.pow_le_pow_right (by decide) n3) (by decide))
theorem flat64 {rs : List Rw} (sm : SmallR rs) (n3 : rs.length ≤ 3) {p : List Int} (pl : p.length = rs.length) : ∀ ws : List Str, (ws.flatMap (movesW rs p)).length ≤ 64 * ws.length
  | [] => by simp
  | w :: ws => by
    have h1 := flat64 sm n3 pl ws
    have h2 := movesW64 sm n3 pl w
    rw [List.flatMap_cons, List.length_append, List.length_cons]
    omega
theorem word_filter {rs : List Rw} {p : List Int} {w : Str} : ∀ {ws : List Str}, ws.Nodup → ((ws.flatMap (movesW rs p)).filter fun m => decide (m.1 = w)) = if w ∈ ws then movesW rs p w else []
  | [], _ => rfl
  | v :: ws, nd => by
    have n1 := List.nodup_cons.mp nd
    rw [List.flatMap_cons, List.filter_append, word_filter n1.2]
    have fst : ∀ m ∈ movesW rs p v, m.1 = v := fun m hm => by obtain ⟨l, _, rfl⟩ := List.mem_map.mp hm; rfl
    by_cases e : v = w
    · subst e
      rw [if_neg n1.1, if_pos List.mem_cons_self, List.append_nil]
      exact List.filter_eq_self.mpr fun m hm => decide_eq_true (fst m hm)
    · rw [List.filter_eq_nil_iff.mpr fun m hm => by rw [decide_eq_true_iff, fst m hm]; exact e, List.nil_append]
      have : (w ∈ v :: ws) ↔ w ∈ ws := ⟨fun h => (List.mem_cons.mp h).elim (fun z => absurd z.symm e) id, List.mem_cons_of_mem _⟩
      by_cases c : w ∈ ws
      · rw [if_pos c, if_pos (this.mpr c)]
      · rw [if_neg c, if_neg (fun z => c (this.mp z))]
theorem word_count {rs : List Rw} {p : List Int} {w : Str} (h : w ∈ sysWords rs) : ((movesOf rs p).filter fun m => decide (m.1 = w)).length = (linesOf (numsAt rs p w)).length := by
  unfold movesOf
  rw [word_filter (ws := sysWords rs) (asc_nodupS (asc_uniq _)), if_pos h]
  unfold movesW
  rw [List.length_map]
/-! ### whether two moves are the same -/
theorem opts_eqv2 : ∀ a b : List (Option Int), PyData.eqvAll (a.map optD) (b.map optD) = decide (a = b)
  | [], [] => rfl
  | [], _ :: _ => rfl
  | _ :: _, [] => rfl
  | x :: a, y :: b => by
    rw [List.map_cons, List.map_cons]
    unfold PyData.eqvAll
    rw [opts_eqv2 a b]
    cases x <;> cases y <;> simp [optD, PyData.eqv]
    rename_i u v
    by_cases h : u = v
    · by_cases h2 : a = b
      · subst h; subst h2; simp
      · simp [h, h2]
    · simp [h]
theorem move_eqv2 (a b : Move) : PyData.eqv (moveD a) (moveD b) = decide (a = b) := by
  obtain ⟨w, l⟩ := a
  obtain ⟨w', l'⟩ := b
  unfold moveD
  simp only [PyData.eqv, PyData.eqvAll, opts_eqv2, Bool.and_true]
  by_cases h : w = w'
  · subst h
    by_cases h2 : l = l'
    · subst h2; simp
    · simp [h2]
  · simp [h]
theorem any_move2 (m : Move) (ms : List Move) : (ms.map moveD).any (fun z => z.eqv (moveD m)) = decide (m ∈ ms) := by
  induction ms with
  | nil => simp
  | cons a L ih =>
    rw [List.map_cons, List.any_cons, ih, move_eqv2]
    by_cases h : a = m
    · subst h; simp
    · have h2 : ¬ m = a := fun z => h z.symm
      simp [h, h2]
theorem not_in_take {ms : List Move} (nd : ms.Nodup) {i : Nat} {m : Move} (h : ms[i]? = some m) : m ∉ ms.take i := fun z => by
  obtain ⟨j, hj⟩ := List.mem_iff_getElem?.mp z
  have jl := (List.getElem?_eq_some_iff.mp hj).1
  rw [List.length_take] at jl
  rw [List.getElem?_take_of_lt (by omega)] at hj
  have l1 := (List.getElem?_eq_some_iff.mp h).1
  have l2 := (List.getElem?_eq_some_iff.mp hj).1
  have := nodup_inj nd l1 l2 ((List.getElem?_eq_some_iff.mp h).2.trans (List.getElem?_eq_some_iff.mp hj).2.symm)
  omega
/-! ### who is moved -/
def movedBy (n : Nat) (m : Move) : List Nat := (List.range n).filter fun k => (m.2[k]?.getD none).isSome
theorem moved_able {rs : List Rw} {p : List Int} (k : Nat) : k ∈ (movesOf rs p).flatMap (movedBy rs.length) ↔ k ∈ ableN rs p := by
  unfold ableN movedBy
  rw [List.mem_flatMap, List.mem_filter, List.any_eq_true]
  constructor
  · rintro ⟨m, hm, hk⟩
    obtain ⟨h1, h2⟩ := List.mem_filter.mp hk
    exact ⟨h1, m, hm, h2⟩
  · rintro ⟨h1, m, hm, h2⟩
    exact ⟨m, hm, List.mem_filter.mpr ⟨h1, h2⟩⟩
theorem moved_len (n : Nat) : ∀ ms : List Move, (ms.flatMap (movedBy n)).length ≤ n * ms.length
  | [] => by simp
  | m :: ms => by
    have ih := moved_len n ms
    have : (movedBy n m).length ≤ n := by
      unfold movedBy
      have := List.length_filter_le (fun k => (m.2[k]?.getD none).isSome) (List.range n)
      rwa [List.length_range] at this
    rw [List.flatMap_cons, List.length_append, List.length_cons, Nat.mul_succ]
    omega
/-! ### _law_reached, _law_standings, _law_count, _law_is_right -/
def sp_k08_reached (g : Ga) : Sp := fun vs H Q _ => ∃ (v : V) (r : Rw), vs = [v] ∧ RowAt g.K H v r ∧ r.2.length ≤ 24 ∧ (reachL r.2 r.1).length ≤ 3 ∧ ∀ D H', Same H H' → H D = none → H' D = some (.lst ((reachL r.2 r.1).map V.int)) → Q (.ref D) H'
def t_rc_2 (g : Ga) : TS := (tRet (tCB (rSortedI g.K) (tCons (tVar 1) tNil)))
def t_rc_1 (g : Ga) : TS := (tSeq (tFor (iRng1 (tCons (tC (.int 4)) tNil)) (gName 2) (tFor (iList g.K (tOp (rIxT g.K) (tVar 0) (tC (.int 1)))) (gName 3) (tIfS (tAnd (tTest (tOp (rIn g.K false) (tOp (rIxT g.K) (tVar 3) (tC (.int 0))) (tVar 1))) (tTest (tOp (rIn g.K true) (tOp (rIxT g.K) (tVar 3) (tC (.int 2))) (tVar 1)))) (tDrop (tBM g.K "list" rApp (tVar 1) (tCons (tOp (rIxT g.K) (tVar 3) (tC (.int 2))) tNil))) tNext))) (t_rc_2 g))
def t_k08__law_reached (g : Ga) : TS := (tSeq (tAsg (tLst (tCons (tOp (rIxT g.K) (tVar 0) (tC (.int 0))) tNil)) (gName 1)) (t_rc_1 g))
theorem pure_k08__law_reached {g : Ga} {vs : List V} {H : Hp} {Q : VK} {E : XK} {N : List Str} (hN : N.length = 4) (h : sp_k08_reached g vs H Q E) : t_k08__law_reached g (endsQ Q) (L2.start N vs) H := by
  obtain ⟨v, r, rfl, row, r24, r3, q⟩ := h
  obtain ⟨a, l, zs, rfl, h1, h2, h3⟩ := row.ex
  have e0 : L2.start N [.ref a] = [some (.ref a), none, none, none] := by unfold L2.start; rw [hN]; rfl
  rw [e0]
  refine ⟨_, rfl, a, _, _, .int r.1, rfl, rfl, SqT.of h1, rfl, by show 1 ≤ sizeLine; decide, fun fd hfd => ?_⟩
  show t_rc_1 g (endsQ Q) [some (.ref a), some (.ref fd), none, none] _
  refine s_for (reach_loop (n := 4) (f := 1) (c1 := 2) (c2 := 3) (l := fd) (a := l) (s0 := r.1) (L := r.2) (by decide) rfl (by decide) (by decide) (by decide) (by show 2 < 4; decide) (by show 3 < 4; decide) (Same.new hfd) hfd upd_same (fun p q H2 s2 Q q1 => ⟨_, rfl, a, _, _, .ref l, rfl, rfl, SqT.of (s2 _ _ h1), rfl, q1⟩) (SqL.of h2) h3 (by omega) (by omega) fun p q' ns H2 s2 hns fnd cl => ?_)
  show t_rc_2 g (endsQ Q) [some (.ref a), some (.ref fd), p, q'] H2
  refine ⟨_, rfl, fd, ns, rfl, SqL.of hns, fun ns' y pm pw hy => ?_⟩
  have e : ns' = reachL r.2 r.1 := reachL_eq (ascI_of pw (pm.nodup_iff.mpr fnd.nd)) fun x => (pm.mem_iff).trans (fnd.all cl x)
  subst e
  exact q y _ (s2.trans (Same.new hy)) (s2.free hy) upd_same
def sp_law_count (g : Ga) : Sp := fun vs H Q _ => ∃ (rl : Addr) (u : V) (w : Str) (rs : List Rw) (sts : List Int), vs = [.ref rl, u, .str w] ∧ RowsAt g H rl rs ∧ StAt g.K H u sts ∧ sts.length = rs.length ∧ SmallR rs ∧ ∀ H', Same H H' → Q (.int ((linesOf (numsAt rs sts w)).length : Nat)) H'
def t_law_count (g : Ga) : TS := (tSeq (tAsg (tC (.int 1)) (gName 3)) (tSeq (tFor (iRng1 (tCons (tCB (rLenS g.K) (tCons (tVar 0) tNil)) tNil)) (gName 4) (tAsg (tOp rMul (tVar 3) (tCB (rLenS g.K) (tCons (tCall (sp_law_numbers g) [] E0 (tCons (tOp (rIxL g.K) (tVar 0) (tVar 4)) (tCons (tOp (rIxT g.K) (tVar 1) (tVar 4)) (tCons (tVar 2) tNil)))) tNil))) (gName 3))) (tRet (tVar 3))))
theorem pure_law_count {g : Ga} {vs : List V} {H : Hp} {Q : VK} {E : XK} {N : List Str} (hN : N.length = 5) (h : sp_law_count g vs H Q E) : t_law_count g (endsQ Q) (L2.start N vs) H := by
  obtain ⟨rl, u, w, rs, sts, rfl, hr, ⟨a, rfl, ha0⟩, sl, sm, q⟩ := h
  have e0 : L2.start N [.ref rl, .ref a, .str w] = [some (.ref rl), some (.ref a), some (.str w), none, none] := by unfold L2.start; rw [hN]; rfl
  rw [e0]
  obtain ⟨xs, hx, hp⟩ := hr.ex
  have lx := hp.length
  have n4 := sm.n4
  refine ⟨_, rfl, rl, xs, rfl, .inl (SqL.of hx), _, rfl, by omega, by omega, for_range (n := xs.length) (fun i σ H' => ∃ p4 : Option V, σ = [some (.ref rl), some (.ref a), some (.str w), some (.int ((linesOf ((numsAt rs sts w).take i)).length : Nat)), p4] ∧ Same H H') ⟨none, rfl, Same.refl H⟩ ?_ ?_⟩
  · rintro i σ H' hi ⟨p4, rfl, s1⟩
    have hy : xs[i]? = some xs[i] := List.getElem?_eq_getElem hi
    obtain ⟨r, hr1, row⟩ := paired_get hp hy
    have rm := List.mem_of_getElem? hr1
    have hst : sts[i]? = some (sts[i]'(by omega)) := List.getElem?_eq_getElem _
    have axs : atI (sts.map V.int) (0 + (i : Int)) = some (.int (sts[i]'(by omega))) := by rw [Int.zero_add]; exact atI_nat (by rw [List.getElem?_map, hst]; rfl)
    have axx : atI xs (0 + (i : Int)) = some xs[i] := by rw [Int.zero_add]; exact atI_nat hy
    have n4' := sm.nu r rm (sts[i]'(by omega)) w
    refine ⟨_, rfl, _, rfl, _, rfl, rl, xs, _, _, rfl, rfl, SqL.of (s1 _ _ hx), axx, _, rfl, _, rfl, a, _, _, _, rfl, rfl, SqT.of (s1 _ _ ha0), axs, _, rfl, xs[i], _, w, r, rfl, row.mono s1, sm.ll r rm, fun nl H3 s3 nnl hnl => ⟨nl, _, rfl, .inl (SqL.of hnl), _, _, rfl, rfl, ?_, some (.int (0 + (i : Int))), ?_, s1.trans s3⟩⟩
    · rw [List.length_map]
      exact .inr ⟨by omega, by omega⟩
    · show [_, _, _, some (V.int (((linesOf ((numsAt rs sts w).take i)).length : Int) * (((numbersOf r.2 (sts[i]'(by omega)) w).map optV).length : Int))), _] = _
      rw [lines_take (nums_at hr1 hst), List.length_map, ← Int.natCast_mul]
  · rintro σ H' ⟨p4, rfl, s1⟩
    have := q H' s1
    rw [List.take_of_length_le (by rw [nums_len sl]; omega)]
    exact ⟨_, rfl, this⟩
def sp_law_is_right (g : Ga) : Sp := fun vs H Q _ => ∃ (rl : Addr) (u v : V) (rs : List Rw) (sts : List Int) (m : Move), vs = [.ref rl, u, v] ∧ RowsAt g H rl rs ∧ StAt g.K H u sts ∧ MoveAt g.K H v m ∧ sts.length = rs.length ∧ SmallR rs ∧ (∀ r ∈ rs, r.2.length ≤ 24) ∧ m ∈ movesOf rs sts ∧ ∀ H', Same H H' → Q (.bl true) H'
def t_ir_3 (g : Ga) : TS := (tRet (tOp (rIn g.K false) (tOp (rIxT g.K) (tVar 2) (tC (.int 0))) (tCall (sp_law_words g) [] E0 (tCons (tVar 0) tNil))))
def t_ir_2 (g : Ga) : TS := (tIfS (tOr (tB (tCB (rIsi g.K) (tCons (tVar 4) (tCons (tC (.ty "bool")) tNil)))) (tTest (tOp (rNotInD g.K) (tVar 4) (tCall (sp_law_numbers g) [] E0 (tCons (tOp (rIxL g.K) (tVar 0) (tVar 3)) (tCons (tOp (rIxT g.K) (tVar 1) (tVar 3)) (tCons (tOp (rIxT g.K) (tVar 2) (tC (.int 0))) tNil))))))) (tRet (tC (.bl false))) tNext)
def t_ir_1 (g : Ga) : TS := (tSeq (tFor (iRng1 (tCons (tCB (rLenS g.K) (tCons (tVar 0) tNil)) tNil)) (gName 3) (tSeq (tAsg (tOp (rIxT g.K) (tOp (rIxT g.K) (tVar 2) (tC (.int 1))) (tVar 3)) (gName 4)) (t_ir_2 g))) (t_ir_3 g))
def t_law_is_right (g : Ga) : TS := (tSeq (tIfS (tOr (tNot (tB (tCB (rIsi g.K) (tCons (tVar 2) (tCons (tC (.ty "tuple")) tNil))))) (tOr (tTest (tOp rNe (tCB (rLenS g.K) (tCons (tVar 2) tNil)) (tC (.int 2)))) (tNot (tB (tCB (rIsi g.K) (tCons (tOp (rIxT g.K) (tVar 2) (tC (.int 0))) (tCons (tC (.ty "str")) tNil))))))) (tRet (tC (.bl false))) tNext) (tSeq (tIfS (tOr (tNot (tB (tCB (rIsi g.K) (tCons (tOp (rIxT g.K) (tVar 2) (tC (.int 1))) (tCons (tC (.ty "tuple")) tNil))))) (tTest (tOp rNe (tCB (rLenS g.K) (tCons (tOp (rIxT g.K) (tVar 2) (tC (.int 1))) tNil)) (tCB (rLenS g.K) (tCons (tVar 0) tNil))))) (tRet (tC (.bl false))) tNext) (t_ir_1 g)))
theorem pure_ir_2 {g : Ga} {D : Ends} {H : Hp} {rl a ma mb : Addr} {sts : List Int} {m : Move} {i : Nat} {r : Rw} {st : Int} {o : Option Int} {y : V} {xs : List V} (hx : H rl = some (.lst xs)) (hy : xs[i]? = some y) (hrow : RowAt g.K H y r) (r24 : r.2.length ≤ 24) (ha : SqT g.K H a (sts.map V.int)) (hst : sts[i]? = some st) (hma : SqT g.K H ma [.str m.1, .ref mb]) (mo : o ∈ numbersOf r.2 st m.1)
    (q : ∀ H', Same H H' → D.nx [some (.ref rl), some (.ref a), some (.ref ma), some (.int (0 + (i : Int))), some (optV o)] H') :
    t_ir_2 g D [some (.ref rl), some (.ref a), some (.ref ma), some (.int (0 + (i : Int))), some (optV o)] H := by
  have ez : (0 : Int) + (i : Int) = ((i : Nat) : Int) := Int.zero_add _
  have axs : atI (sts.map V.int) (0 + (i : Int)) = some (.int st) := by rw [ez]; exact atI_nat (by rw [List.getElem?_map, hst]; rfl)
  have axx : atI xs (0 + (i : Int)) = some y := by rw [ez]; exact atI_nat hy
  have ty : ∃ t : String, TyX g.K H (optV o) (.type t) ∧ kitB t "bool" = some false := by
    cases o with
    | none => exact ⟨"NoneType", .base .non, by decide +kernel⟩
    | some z => exact ⟨"int", .base (.int _), by decide +kernel⟩
  obtain ⟨t, ty1, ty2⟩ := ty
  refine ⟨_, rfl, _, .ty "bool", _, _, false, rfl, .ty _, ty1, kb ty2, false, rfl, iteF ?_⟩
  refine t_test ⟨_, rfl, _, rfl, _, rfl, rl, xs, _, y, rfl, rfl, SqL.of hx, axx, _, rfl, _, rfl, a, _, _, _, rfl, rfl, ha, axs, _, rfl, ma, _, _, .str m.1, rfl, rfl, hma, rfl, y, st, m.1, r, rfl, hrow, by omega, fun nl H3 s3 nnl hnl => ?_⟩
  refine ⟨optD o, (numbersOf r.2 st m.1).map optD, dp_opt o, .lst (SqL.of hnl) (dp_opts _), opt_shaped o, opts_shaped _, _, rfl, ?_⟩
  rw [any_opt mo]
  exact iteF (q H3 s3)
theorem pure_law_is_right {g : Ga} {vs : List V} {H : Hp} {Q : VK} {E : XK} {N : List Str} (hN : N.length = 5) (h : sp_law_is_right g vs H Q E) : t_law_is_right g (endsQ Q) (L2.start N vs) H := by
  obtain ⟨rl, u, v, rs, sts, m, rfl, hr, ⟨a, rfl, ha0⟩, ⟨ma, mb, rfl, hma, hmb⟩, sl, sm, r24, mm, q⟩ := h
  have ha : SqT g.K H a (sts.map V.int) := SqT.of ha0
  have e0 : L2.start N [.ref rl, .ref a, .ref ma] = [some (.ref rl), some (.ref a), some (.ref ma), none, none] := by unfold L2.start; rw [hN]; rfl
  rw [e0]
  obtain ⟨xs, hx, hp⟩ := hr.ex
  have lx := hp.length
  have n4 := sm.n4
  obtain ⟨ml, val⟩ := moves_nums mm sl
  have mw := moves_word mm
  refine ⟨_, rfl, _, .ty "tuple", _, _, true, rfl, .ty _, st_ty hma, kb (by decide +kernel), true, rfl, iteF ?_⟩
  refine ⟨_, rfl, ma, _, rfl, .inr hma, rfl, _, rfl, iteF ?_⟩
  refine ⟨_, rfl, ma, _, _, .str m.1, rfl, rfl, hma, rfl, _, .ty "str", _, _, true, rfl, .ty _, .base (.str _), kb (by decide +kernel), true, rfl, iteF ?_⟩
  refine ⟨_, rfl, ma, _, _, .ref mb, rfl, rfl, hma, rfl, _, .ty "tuple", _, _, true, rfl, .ty _, st_ty hmb, kb (by decide +kernel), true, rfl, iteF ?_⟩
  refine ⟨_, rfl, ma, _, _, .ref mb, rfl, rfl, hma, rfl, mb, _, rfl, .inr hmb, _, rfl, rl, xs, rfl, .inl (SqL.of hx), rfl, _, rfl, ?_⟩
  rw [decide_eq_true (show V.int ((m.2.map optV).length : Int) = V.int (xs.length : Int) by rw [List.length_map, ml, lx])]
  refine iteF ?_
  show t_ir_1 g (endsQ Q) [some (.ref rl), some (.ref a), some (.ref ma), none, none] H
  refine ⟨_, rfl, rl, xs, rfl, .inl (SqL.of hx), _, rfl, by omega, by omega, for_range (n := xs.length) (fun i σ H' => ∃ p3 p4 : Option V, σ = [some (.ref rl), some (.ref a), some (.ref ma), p3, p4] ∧ Same H H') ⟨none, none, rfl, Same.refl H⟩ ?_ ?_⟩
  · rintro i σ H' hi ⟨p3, p4, rfl, s2⟩
    have hy : xs[i]? = some xs[i] := List.getElem?_eq_getElem hi
    obtain ⟨r, hr1, row⟩ := paired_get hp hy
    obtain ⟨st, hst⟩ : ∃ st, sts[i]? = some st := ⟨sts[i]'(by omega), List.getElem?_eq_getElem _⟩
    obtain ⟨o, ho, mo⟩ := val i r st hr1 hst
    have axm : atI (m.2.map optV) (0 + (i : Int)) = some (optV o) := by rw [Int.zero_add]; exact atI_nat (by rw [List.getElem?_map, ho]; rfl)
    refine ⟨_, rfl, ma, _, _, .ref mb, rfl, rfl, Same.tup s2 hma, rfl, _, rfl, mb, _, _, optV o, rfl, rfl, Same.tup s2 hmb, axm, ?_⟩
    show t_ir_2 g _ [some (.ref rl), some (.ref a), some (.ref ma), some (.int (0 + (i : Int))), some (optV o)] H'
    exact pure_ir_2 (s2 _ _ hx) hy (row.mono s2) (r24 r (List.mem_of_getElem? hr1)) (Same.tup s2 ha) hst (Same.tup s2 hma) mo fun H3 s3 => ⟨_, _, rfl, s2.trans s3⟩
  · rintro σ H' ⟨p3, p4, rfl, s2⟩
    show t_ir_3 g (endsQ Q) [some (.ref rl), some (.ref a), some (.ref ma), p3, p4] H'
    refine ⟨_, rfl, ma, _, _, .str m.1, rfl, rfl, Same.tup s2 hma, rfl, _, rfl, rl, rs, rfl, hr.mono s2, by omega, r24, fun D H1 s1 nD hD => ⟨D, _, rfl, .inl (SqL.of hD), rfl, str_flat _, ?_⟩⟩
    rw [if_neg Bool.false_ne_true, inV_str, decide_eq_true mw]
    exact q H1 (s2.trans s1)
end Sd
namespace Sd
open PySem PySem.Spec PyProof.Rows L2
theorem meth_gen {g : Ga} {σ : L2.St} {H : Hp} {Q : VK} {E : XK} {i : Nat} {nm : Str} {sp : Sp} {tv : TE} {ta : TA} {x : Addr} {ds : List Int} {rs : List Rw} (h1 : σ[i]? = some (some (.ref x))) (hx : SysAt g H x rs ds) (n1 : (nm == "hands") = false) (n2 : (nm == "diligent") = false) (n3 : (nm == "words") = false) (n4 : (nm == "start") = false)
    (h : tv σ H fun v H1 => ta σ H1 fun vs H2 => sp (.ref x :: v :: vs) H2 Q E) : tMeth g.cSystem nm sp [] E (tVar i) (tCons tv ta) σ H Q := by
  obtain ⟨dx, hh, d, w, s, xs, g1, g2⟩ := hx.ex
  refine ⟨_, h1, x, dx, _, rfl, g1, by simp [sysF, List.lookup, n1, n2, n3, n4], ?_⟩
  have e : ∀ (v : V) (vs : List V), (V.ref x :: (v :: vs)) ++ [] = .ref x :: v :: vs := fun v vs => List.append_nil _
  show tv σ H fun v H1 => ta σ H1 fun vs H2 => sp ((V.ref x :: (v :: vs)) ++ []) H2 Q E
  simp only [List.append_nil]
  exact h
/-- system.behind(states, move) -/
theorem meth_behind {g : Ga} {σ : L2.St} {H : Hp} {Q : VK} {E : XK} {i : Nat} {tv tw : TE} {x : Addr} {u v : V} {sts ds : List Int} {rs : List Rw} {m : Move} (h1 : σ[i]? = some (some (.ref x))) (hx : SysAt g H x rs ds) (ht : ∀ Q : VK, Q u H → tv σ H Q) (hw : ∀ Q : VK, Q v H → tw σ H Q) (sm : SmallR rs) (hu : StAt g.K H u sts) (st : StandI rs sts) (hv : MoveAt g.K H v m) (mm : m ∈ movesOf rs sts) (q : ∀ w H', Same H H' → StAt g.K H' w (behindOf rs sts m.2) → Q w H') :
    tMeth g.cSystem "behind" (sp_System_behind g) [] E (tVar i) (tCons tv (tCons tw tNil)) σ H Q :=
  meth_gen h1 hx (by decide +kernel) (by decide +kernel) (by decide +kernel) (by decide +kernel) (ht _ (hw _ ⟨x, u, v, rs, ds, sts, m, rfl, hx, sm, hu, st, hv, mm, q⟩))
/-- system.started_at(states) -/
theorem meth_started {g : Ga} {σ : L2.St} {H : Hp} {Q : VK} {E : XK} {i : Nat} {tv : TE} {x : Addr} {u : V} {sts ds : List Int} {rs : List Rw} (h1 : σ[i]? = some (some (.ref x))) (hx : SysAt g H x rs ds) (ht : ∀ Q : VK, Q u H → tv σ H Q) (sr : SysRows rs ds) (hu : StAt g.K H u sts) (st : StandI rs sts) (q : ∀ y H', Same H H' → H y = none → SysAt g H' y (restart rs sts) ds → Q (.ref y) H') :
    tMeth g.cSystem "started_at" (sp_System_started_at g) [] E (tVar i) (tCons tv tNil) σ H Q :=
  meth_gen h1 hx (by decide +kernel) (by decide +kernel) (by decide +kernel) (by decide +kernel) (ht _ ⟨x, u, rs, ds, sts, rfl, hx, sr, hu, st, q⟩)
theorem stand_snoc {rs : List Rw} {p : List Int} {r : Rw} {z : Int} (h : StandI rs p) (hz : z ∈ reachL r.2 r.1) : StandI (rs ++ [r]) (p ++ [z]) := by
  have hl := h.len
  refine ⟨by simp [hl], fun i r' hr => ?_⟩
  by_cases c : i < rs.length
  · rw [List.getElem?_append_left c] at hr
    obtain ⟨y, hy, m⟩ := h.st i r' hr
    refine ⟨y, ?_, m⟩
    rw [List.map_append, List.getElem?_append_left (by rw [List.length_map]; omega)]
    exact hy
  · have il := (List.getElem?_eq_some_iff.mp hr).1
    simp at il
    have ei : i = rs.length := by omega
    subst ei
    rw [List.getElem?_append_right (Nat.le_refl _), Nat.sub_self] at hr
    simp at hr
    subst hr
    refine ⟨z, ?_, hz⟩
    rw [List.map_append, List.getElem?_append_right (by rw [List.length_map]; omega), List.length_map, hl, Nat.sub_self]; rfl
theorem cat_st {K : PySem.W.Frag} {H : Hp} {Q : VK} {a b : Addr} {p : List Int} {z : Int} (ha : H a = some (.tup (p.map V.int))) (hb : H b = some (.tup [.int z])) (lt : p.length ≤ 1000) (q : ∀ c H', Same H H' → H' c = some (.tup ((p ++ [z]).map V.int)) → Q (.ref c) H') : rCatA K (.ref a) (.ref b) H Q := by
  refine ⟨a, b, _, _, rfl, rfl, SqT.of ha, SqT.of hb, ?_, fun e => q b H (Same.refl H) ?_, (fun _ e => by cases e), fun _ _ c hc => q c _ (Same.new hc) ?_⟩
  · rw [List.length_map]; exact Nat.le_of_lt (big_line (by show p.length + 1 ≤ _; omega))
  · have : p = [] := by simpa using e
    subst this
    exact hb
  · rw [upd_same, List.map_append]; rfl
/-! ### _law_standings -/
def sp_law_standings (g : Ga) : Sp := fun vs H Q _ => ∃ (rl : Addr) (rs : List Rw), vs = [.ref rl] ∧ RowsAt g H rl rs ∧ rs.length ≤ 3 ∧ (∀ r ∈ rs, r.2.length ≤ 24) ∧ (∀ r ∈ rs, (reachL r.2 r.1).length ≤ 3) ∧ ∀ D xs ps H', Same H H' → H' D = some (.lst xs) → Paired (StAt g.K H') xs ps → (∀ p ∈ ps, StandI rs p) → ps.length ≤ 27 → Q (.ref D) H'
def t_ls_4 (g : Ga) : TS := (tAsg (tVar 3) (gName 1))
def t_ls_3 (g : Ga) : TS := (tAsg (tOp rCat (tVar 3) (tLc (iList g.K (tCall (sp_k08_reached g) [] E0 (tCons (tVar 2) tNil))) (gName 5) tYes (tOp (rCatA g.K) (tVar 4) (tTup (tCons (tVar 5) tNil))) [5])) (gName 3))
def t_ls_2 (g : Ga) : TS := (tSeq (tFor (iList g.K (tVar 1)) (gName 4) (t_ls_3 g)) (t_ls_4 g))
def t_ls_1 (g : Ga) : TS := (tSeq (tAsg (tLst tNil) (gName 3)) (t_ls_2 g))
def t_law_standings (g : Ga) : TS := (tSeq (tAsg (tLst (tCons (tTup tNil) tNil)) (gName 1)) (tSeq (tFor (iList g.K (tVar 0)) (gName 2) (t_ls_1 g)) (tRet (tVar 1))))
theorem pure_ls_3 {g : Ga} {D : Ends} {H : Hp} {p0 p1 : Option V} {v : V} {ln a : Addr} {r : Rw} {rs : List Rw} {p : List Int} {ys : List V} {qs : List (List Int)} (row : RowAt g.K H v r) (r24 : r.2.length ≤ 24) (r3 : (reachL r.2 r.1).length ≤ 3) (ha : H a = some (.tup (p.map V.int))) (pl : p.length ≤ 100) (sp : StandI rs p) (hln : H ln = some (.lst ys)) (hys : Paired (StAt g.K H) ys qs) (hq : ∀ q ∈ qs, StandI (rs ++ [r]) q) (few : qs.length ≤ 1000)
    (q : ∀ ln' ys' qs' H', Same H H' → H' ln' = some (.lst ys') → Paired (StAt g.K H') ys' qs' → (∀ q ∈ qs', StandI (rs ++ [r]) q) → qs'.length ≤ qs.length + 3 → D.nx [p0, p1, some v, some (.ref ln'), some (.ref a), none] H') :
    t_ls_3 g D [p0, p1, some v, some (.ref ln), some (.ref a), none] H := by
  have ly := hys.length
  refine ⟨_, rfl, _, rfl, v, r, rfl, row, r24, r3, fun D1 H1 s1 nD1 hD1 => ⟨D1, rfl, ⟨_, SqL.of hD1⟩, fun Dl hDl => ?_⟩⟩
  refine lc_list (K := g.K) (a := D1) (xs := (reachL r.2 r.1).map V.int) (fun j H' => Same H1 H' ∧ ∃ zs ps, H' Dl = some (.lst zs) ∧ Paired (StAt g.K H') zs ps ∧ (∀ q ∈ ps, StandI (rs ++ [r]) q) ∧ ps.length = j) ⟨Same.new hDl, [], [], upd_same, .nil, (fun q h => by cases h), rfl⟩ (fun j H' _ z => SqL.of (z.1 _ _ hD1)) ?_ ?_
  · rintro j w H' hw ⟨s2, zs, ps, hz, hzs, hps, lj⟩
    obtain ⟨z, hz1, rfl⟩ := map_get hw
    have jl := (List.getElem?_eq_some_iff.mp hz1).1
    have lz := hzs.length
    refine ⟨rfl, e_yes ⟨_, rfl, _, rfl, by show 1 ≤ sizeLine; decide, fun t ht => ?_⟩⟩
    have s3 : Same H' (upd H' t (.tup [.int z])) := Same.new ht
    refine cat_st ((s1.trans (s2.trans s3)) _ _ ha) upd_same (by omega) fun c H4 s4 hc => ?_
    have s34 := s3.trans s4
    have hz4 := s34 _ _ hz
    refine ⟨zs, hz4, big_line (by omega), Same.own (s2.trans s34) hDl, zs ++ [.ref c], ps ++ [p ++ [z]], upd_same, paired_app (paired_mono (fun _ _ y => (y.mono s34).upd hz4) hzs) (.cons (StAt.upd hz4 ⟨c, rfl, hc⟩) .nil), fun q hq' => ?_, by simp [lj]⟩
    rcases List.mem_append.mp hq' with y | y
    · exact hps q y
    · rw [List.mem_singleton.mp y]; exact stand_snoc sp (List.mem_of_getElem? hz1)
  · rintro H' ⟨s2, zs, ps, hz, hzs, hps, lj⟩
    rw [List.length_map] at lj
    have lz := hzs.length
    have s12 := s1.trans s2
    refine ⟨ln, Dl, _, _, rfl, rfl, s12 _ _ hln, hz, Nat.le_of_lt (big_line (by omega)), fun c hc => ?_⟩
    have s3 : Same H' (upd H' c (.lst (ys ++ zs))) := Same.new hc
    refine q c (ys ++ zs) (qs ++ ps) _ (s12.trans s3) upd_same (paired_app (paired_mono (fun _ _ y => y.mono (s12.trans s3)) hys) (paired_mono (fun _ _ y => y.mono s3) hzs)) (fun q hq' => ?_) (by rw [List.length_append]; omega)
    rcases List.mem_append.mp hq' with y | y
    · exact hq q y
    · exact hps q y
theorem pure_law_standings {g : Ga} {vs : List V} {H : Hp} {Q : VK} {E : XK} {N : List Str} (hN : N.length = 6) (h : sp_law_standings g vs H Q E) : t_law_standings g (endsQ Q) (L2.start N vs) H := by
  obtain ⟨rl, rs, rfl, hr, n3, r24, r3, q⟩ := h
  have e0 : L2.start N [.ref rl] = [some (.ref rl), none, none, none, none, none] := by unfold L2.start; rw [hN]; rfl
  rw [e0]
  obtain ⟨xr, hxr, hp⟩ := hr.ex
  have lx := hp.length
  refine ⟨by show 0 ≤ sizeLine; decide, fun e1 he1 => ⟨by show 1 ≤ sizeLine; decide, fun f0 hf0 => ?_⟩⟩
  have s1 : Same H (upd H e1 (.tup [])) := Same.new he1
  have s2 : Same (upd H e1 (.tup [])) (upd (upd H e1 (.tup [])) f0 (.lst [.ref e1])) := Same.new hf0
  refine ⟨_, rfl, rl, rfl, ⟨_, SqL.of ((s1.trans s2) _ _ hxr)⟩, for_list (K := g.K) (a := rl) (xs := xr) (fun i σ H' => ∃ (fd : Addr) (xs : List V) (ps : List (List Int)) (p2 p3 p4 : Option V), σ = [some (.ref rl), some (.ref fd), p2, p3, p4, none] ∧ Same H H' ∧ H' fd = some (.lst xs) ∧ Paired (StAt g.K H') xs ps ∧ (∀ p ∈ ps, StandI (rs.take i) p) ∧ ps.length ≤ 3 ^ i) ⟨f0, [.ref e1], [[]], none, none, none, rfl, s1.trans s2, upd_same, .cons ⟨e1, rfl, s2 _ _ upd_same⟩ .nil, (fun p hp => by rw [List.mem_singleton.mp hp]; exact ⟨rfl, fun i r hr => by simp at hr⟩), by decide⟩ (fun i σ H' _ ⟨_, _, _, _, _, _, _, z, _⟩ => SqL.of (z _ _ hxr)) ?_ ?_⟩
  · rintro i v σ H' hv ⟨fd, xs, ps, p2, p3, p4, rfl, s3, hfd, hxs, hst, hle⟩
    obtain ⟨r, hr1, row⟩ := paired_get hp hv
    have rm := List.mem_of_getElem? hr1
    have il := (List.getElem?_eq_some_iff.mp hr1).1
    have p9 : 3 ^ i ≤ 9 := Nat.le_trans (Nat.pow_le_pow_right (by decide) (show i ≤ 2 by omega)) (by decide)
    have lps := hxs.length
    have etk : rs.take (i + 1) = rs.take i ++ [r] := by rw [List.take_add_one, hr1]; rfl
    show t_ls_1 g _ [some (.ref rl), some (.ref fd), some v, p3, p4, none] H'
    refine ⟨by show 0 ≤ sizeLine; decide, fun l0 hl0 => ?_⟩
    have s4 : Same H' (upd H' l0 (.lst [])) := Same.new hl0
    show t_ls_2 g _ [some (.ref rl), some (.ref fd), some v, some (.ref l0), p4, none] _
    refine ⟨_, rfl, fd, rfl, ⟨_, SqL.of (s4 _ _ hfd)⟩, for_list (K := g.K) (a := fd) (xs := xs) (fun j σ H2 => ∃ (ln : Addr) (ys : List V) (qs : List (List Int)) (p4 : Option V), σ = [some (.ref rl), some (.ref fd), some v, some (.ref ln), p4, none] ∧ Same H' H2 ∧ H2 ln = some (.lst ys) ∧ Paired (StAt g.K H2) ys qs ∧ (∀ q ∈ qs, StandI (rs.take i ++ [r]) q) ∧ qs.length ≤ 3 * j) ⟨l0, [], [], p4, rfl, s4, upd_same, .nil, (fun q h => by cases h), Nat.le_refl _⟩ (fun j σ H2 _ ⟨_, _, _, _, _, z, _⟩ => SqL.of (z _ _ hfd)) ?_ ?_⟩
    · rintro j u σ H2 hu ⟨ln, ys, qs, p4, rfl, s5, hln, hys, hq, hlq⟩
      obtain ⟨p, hp1, a, rfl, ha⟩ := paired_get hxs hu
      have jl := (List.getElem?_eq_some_iff.mp hu).1
      have sp := hst p (List.mem_of_getElem? hp1)
      have plen := sp.len
      rw [List.length_take] at plen
      show t_ls_3 g _ [some (.ref rl), some (.ref fd), some v, some (.ref ln), some (.ref a), none] H2
      exact pure_ls_3 (row.mono (s3.trans s5)) (r24 r rm) (r3 r rm) (s5 _ _ ha) (by omega) sp hln hys hq (by omega) fun ln' ys' qs' H3 s6 hln' hys' hq' hl' => ⟨ln', ys', qs', _, rfl, s5.trans s6, hln', hys', hq', by rw [Nat.mul_succ]; omega⟩
    · rintro σ H2 ⟨ln, ys, qs, p4, rfl, s5, hln, hys, hq, hlq⟩
      show t_ls_4 g _ [some (.ref rl), some (.ref fd), some v, some (.ref ln), p4, none] H2
      refine ⟨_, rfl, ln, ys, qs, _, _, _, rfl, s3.trans s5, hln, hys, fun p hp' => by rw [etk]; exact hq p hp', ?_⟩
      rw [Nat.pow_succ]; omega
  · rintro σ H' ⟨fd, xs, ps, p2, p3, p4, rfl, s3, hfd, hxs, hst, hle⟩
    rw [lx, List.take_length] at hst
    refine ⟨_, rfl, q fd xs ps H' s3 hfd hxs hst ?_⟩
    exact Nat.le_trans hle (Nat.le_trans (Nat.pow_le_pow_right (by decide) (show xr.length ≤ 3 by omega)) (by decide))
end Sd
namespace Sd
open PySem PySem.Spec PyProof.Rows L2
theorem ints_short : ∀ l : List Int, shortAll (l.map .int) = true
  | [] => rfl
  | a :: l => by rw [List.map_cons]; unfold shortAll; rw [ints_short l]; rfl
theorem st_short {p : List Int} (h : p.length ≤ 1000) : shortD (stD p) = true := by
  unfold stD shortD
  rw [ints_short, List.length_map, Bool.and_true]
  exact decide_eq_true (by omega)
theorem ls_short {p : List Int} (h : p.length ≤ 1000) : shortD (lsD p) = true := by
  unfold lsD shortD
  rw [ints_short, List.length_map, Bool.and_true]
  exact decide_eq_true (by omega)
def natsI (l : List Nat) : List Int := l.map fun k : Nat => (k : Int)
/-- sorted(set(moved)) -/
theorem sorted_moved {g : Ga} {σ : L2.St} {H : Hp} {Q : VK} {i : Nat} {mv : Addr} {rs : List Rw} {p : List Int} (h1 : σ[i]? = some (some (.ref mv))) (hm : H mv = some (.lst ((natsI ((movesOf rs p).flatMap (movedBy rs.length))).map V.int))) (few : ((movesOf rs p).flatMap (movedBy rs.length)).length ≤ 1000) (n4 : rs.length ≤ 4) (q : ∀ D H', Same H H' → H D = none → H' D = some (.lst ((ableOf rs p).map V.int)) → Q (.ref D) H') :
    tCB (rSortedSet g.w) (tCons (tCB (rSetI g.K g.w) (tCons (tVar i) tNil)) tNil) σ H Q := by
  refine ⟨_, h1, mv, natsI ((movesOf rs p).flatMap (movedBy rs.length)), rfl, SqL.of hm, by unfold natsI; rw [List.length_map]; exact few, fun S c hc hM hS => ?_⟩
  have c4 : c ≤ 4 := by
    have := hM (natsI (List.range rs.length)) fun j hj => by
      obtain ⟨k, hk, rfl⟩ := List.mem_map.mp hj
      have := (moved_able k).mp hk
      exact List.mem_map.mpr ⟨k, (List.mem_filter.mp this).1, rfl⟩
    unfold natsI at this
    rw [List.length_map, List.length_range] at this
    omega
  refine ⟨S, _, c, rfl, upd_same, by omega, fun ns y pw mem _ hy => ?_⟩
  have e : ns = ableOf rs p := by
    refine ascI_ext pw (ableOf_asc rs p) fun z => ?_
    rw [mem z, decide_eq_true_eq]
    unfold ableOf natsI
    rw [List.mem_map, List.mem_map]
    exact ⟨fun ⟨k, hk, e⟩ => ⟨k, (moved_able k).mp hk, e⟩, fun ⟨k, hk, e⟩ => ⟨k, (moved_able k).mpr hk, e⟩⟩
  subst e
  have s4 : Same H (upd H S (SetO g.w S (fun j => decide (j ∈ natsI ((movesOf rs p).flatMap (movedBy rs.length)))) c)) := Same.new hS
  exact q y _ (s4.trans (Same.new hy)) (s4.free hy) upd_same
theorem able_len {rs : List Rw} {p : List Int} : (ableOf rs p).length ≤ rs.length := by
  unfold ableOf ableN
  rw [List.length_map]
  have := List.length_filter_le (fun i => (movesOf rs p).any fun m => (m.2[i]?.getD none).isSome) (List.range rs.length)
  rwa [List.length_range] at this
def sp_k08_holds (g : Ga) : Sp := fun vs H Q _ => ∃ (x rl : Addr) (u : V) (zs : List Str) (rs : List Rw) (ks p : List Int), vs = [.ref x, .ref rl, u] ∧ SysAt g H x rs ks ∧ RowsAt g H rl rs ∧ DrawnRows zs 3 4 3 rs ks ∧ StAt g.K H u p ∧ StandI rs p ∧ ∀ H', Same H H' → Q (.bl true) H'
def t_h8_5 (g : Ga) : TS := (tAsg (tOp rCat (tVar 4) (tLc (iRng1 (tCons (tCB (rLenS g.K) (tCons (tVar 1) tNil)) tNil)) (gName 9) (tTest (tOp rNotN (tOp (rIxT g.K) (tOp (rIxT g.K) (tOp (rIxL g.K) (tVar 3) (tVar 5)) (tC (.int 1))) (tVar 9)) (tC .non))) (tVar 9) [9])) (gName 4))
def t_h8_7 (g : Ga) : TS := (tIfS (tTest (tOp rNe (tCB (rLenS g.K) (tCons (tLc (iList g.K (tVar 3)) (gName 10) (tTest (tOp rEq (tOp (rIxT g.K) (tVar 10) (tC (.int 0))) (tVar 6))) (tC (.int 1)) [10]) tNil)) (tCall (sp_law_count g) [] E0 (tCons (tVar 1) (tCons (tVar 2) (tCons (tVar 6) tNil)))))) (tRet (tC (.bl false))) tNext)
def t_h8_14 (g : Ga) : TS := (tRet (tAndV (tCall (sp_law_same 3 g) [] E0 (tCons (tMeth g.cSystem "able" (sp_System_able g) [] E0 (tVar 0) (tCons (tVar 2) tNil)) (tCons (tCB (rSortedSet g.w) (tCons (tCB (rSetI g.K g.w) (tCons (tVar 4) tNil)) tNil)) tNil))) (tOp (rEqD g.K) (tMeth g.cSystem "able" (sp_System_able g) [] E0 (tVar 8) (tCons (tVar 2) tNil)) (tMeth g.cSystem "able" (sp_System_able g) [] E0 (tVar 0) (tCons (tVar 2) tNil)))))
def t_h8_4 (g : Ga) : TS := (tSeq (tIfS (tNot (tB (tCall (sp_law_same 3 g) [] E0 (tCons (tMeth g.cSystem "behind" (sp_System_behind g) [] E0 (tVar 0) (tCons (tVar 2) (tCons (tOp (rIxL g.K) (tVar 3) (tVar 5)) tNil))) (tCons (tCall (sp_law_behind g) [] E0 (tCons (tVar 1) (tCons (tVar 2) (tCons (tOp (rIxL g.K) (tVar 3) (tVar 5)) tNil)))) tNil))))) (tRet (tC (.bl false))) tNext) (t_h8_5 g))
def t_h8_13 (g : Ga) : TS := (tSeq (tIfS (tOr (tNot (tB (tCall (sp_law_same 3 g) [] E0 (tCons (tFld g.K (tVar 8) "start") (tCons (tVar 2) tNil))))) (tOr (tTest (tOp (rNeD g.K) (tFld g.K (tVar 8) "diligent") (tFld g.K (tVar 0) "diligent"))) (tTest (tOp (rNeD g.K) (tMeth g.cSystem "moves" (sp_System_moves g) [] E0 (tVar 8) (tCons (tVar 2) tNil)) (tVar 3))))) (tRet (tC (.bl false))) tNext) (t_h8_14 g))
def t_h8_12 (g : Ga) : TS := (tSeq (tAsg (tMeth g.cSystem "started_at" (sp_System_started_at g) [] E0 (tVar 0) (tCons (tVar 2) tNil)) (gName 8)) (t_h8_13 g))
def t_h8_3 (g : Ga) : TS := (tSeq (tIfS (tOr (tNot (tB (tCall (sp_law_is_right g) [] E0 (tCons (tVar 1) (tCons (tVar 2) (tCons (tOp (rIxL g.K) (tVar 3) (tVar 5)) tNil)))))) (tTest (tOp (rInD g.K) (tOp (rIxL g.K) (tVar 3) (tVar 5)) (tSl (rSlL g.K) (tVar 3) tNoPart (tPart (tVar 5)))))) (tRet (tC (.bl false))) tNext) (t_h8_4 g))
def t_h8_11 (g : Ga) : TS := (tSeq (tDrop (tBM0 g.K "list" rReverse (tVar 7))) (t_h8_12 g))
def t_h8_10 (g : Ga) : TS := (tSeq (tDrop (tBM g.K "list" rApp (tVar 7) (tCons (tC (.int 0)) tNil))) (t_h8_11 g))
def t_h8_9 (g : Ga) : TS := (tSeq (tIfS (tNot (tB (tCall (sp_law_same 3 g) [] E0 (tCons (tVar 7) (tCons (tCB (rSortedSet g.w) (tCons (tCB (rSetI g.K g.w) (tCons (tVar 4) tNil)) tNil)) tNil))))) (tRet (tC (.bl false))) tNext) (t_h8_10 g))
def t_h8_8 (g : Ga) : TS := (tSeq (tAsg (tMeth g.cSystem "able" (sp_System_able g) [] E0 (tVar 0) (tCons (tVar 2) tNil)) (gName 7)) (t_h8_9 g))
def t_h8_6 (g : Ga) : TS := (tSeq (tFor (iList g.K (tCall (sp_law_words g) [] E0 (tCons (tVar 1) tNil))) (gName 6) (t_h8_7 g)) (t_h8_8 g))
def t_h8_2 (g : Ga) : TS := (tSeq (tFor (iRng1 (tCons (tCB (rLenS g.K) (tCons (tVar 3) tNil)) tNil)) (gName 5) (t_h8_3 g)) (t_h8_6 g))
def t_h8_1 (g : Ga) : TS := (tSeq (tAsg (tLst tNil) (gName 4)) (t_h8_2 g))
def t_k08__law_holds (g : Ga) : TS := (tSeq (tAsg (tMeth g.cSystem "moves" (sp_System_moves g) [] E0 (tVar 0) (tCons (tVar 2) tNil)) (gName 3)) (t_h8_1 g))
structure H8 (g : Ga) (B : Hp) (x rl D : Addr) (u : V) (vs : List V) (zs : List Str) (rs : List Rw) (ks p : List Int) : Prop where
  hx : SysAt g B x rs ks
  hr : RowsAt g B rl rs
  dr : DrawnRows zs 3 4 3 rs ks
  hu : StAt g.K B u p
  st : StandI rs p
  hD : B D = some (.lst vs)
  hv : Paired (MoveAt g.K B) vs (movesOf rs p)
theorem H8.mono {g : Ga} {B H : Hp} {x rl D : Addr} {u : V} {vs : List V} {zs : List Str} {rs : List Rw} {ks p : List Int} (s : Same B H) (h : H8 g B x rl D u vs zs rs ks p) : H8 g H x rl D u vs zs rs ks p := ⟨h.hx.mono s, h.hr.mono s, h.dr, h.hu.mono s, h.st, s _ _ h.hD, paired_mono (fun _ _ z => z.mono s) h.hv⟩
theorem H8.few {g : Ga} {B : Hp} {x rl D : Addr} {u : V} {vs : List V} {zs : List Str} {rs : List Rw} {ks p : List Int} (h : H8 g B x rl D u vs zs rs ks p) : (movesOf rs p).length ≤ 256 := by
  have h1 := flat64 (h.dr.small (by decide) (by decide)) h.dr.n2 h.st.len (sysWords rs)
  have h2 := sysWords_le h.dr.ok
  have h3 := h.dr.zl
  unfold movesOf
  omega
theorem dp_told {g : Ga} {B : Hp} {x rl D : Addr} {u : V} {vs : List V} {zs : List Str} {rs : List Rw} {ks p : List Int} (h : H8 g B x rl D u vs zs rs ks p) : Dp g.K B (.ref D) (.list ((movesOf rs p).map moveD)) := .lst (SqL.of h.hD) (dp_moves h.hv)
theorem moves_eqv3 (ms : List Move) : PyData.eqv (.list (ms.map moveD)) (.list (ms.map moveD)) = true := by
  simp only [PyData.eqv]; exact moves_eqv ms
/-- from the later system on -/
theorem pure_h8_12 {g : Ga} {B H : Hp} {Q : VK} {p5 p6 p7 : Option V} {x rl D mv : Addr} {u : V} {vs : List V} {zs : List Str} {rs : List Rw} {ks p : List Int} (T : SysC g) (h : H8 g B x rl D u vs zs rs ks p) (s0 : Same B H) (hm : B mv = some (.lst ((natsI ((movesOf rs p).flatMap (movedBy rs.length))).map V.int))) (fm : ((movesOf rs p).flatMap (movedBy rs.length)).length ≤ 1000) (q : ∀ H', Same B H' → Q (.bl true) H') :
    t_h8_12 g (endsQ Q) [some (.ref x), some (.ref rl), some u, some (.ref D), some (.ref mv), p5, p6, p7, none, none, none] H := by
  have sm := h.dr.small (by decide) (by decide)
  have sr := h.dr.sys (by decide) (by decide) (by decide)
  have n2 := h.dr.n2
  have pl := h.st.len
  have nm : ∀ m ∈ movesOf rs p, IsName m.1 := fun m hm => h.dr.names (moves_word hm)
  have es := restart_steps (rs := rs) h.st.len
  have rr := sr.restart h.st
  have stl : StandI (restart rs p) p := by
    have := stand_start (restart rs p)
    rwa [restart_st h.st.len] at this
  refine s_asg (meth_started (u := u) rfl (h.hx.mono s0) (fun Q q => ⟨_, rfl, q⟩) sr (h.hu.mono s0) h.st fun y H1 s1 ny hy => ?_)
  have h1 := h.mono (s0.trans s1)
  show t_h8_13 g (endsQ Q) [some (.ref x), some (.ref rl), some u, some (.ref D), some (.ref mv), p5, p6, p7, some (.ref y), none, none] H1
  obtain ⟨dx, hh, d', w', s', hs, g1, g2, g3, g4, g5, g6⟩ := hy.ex
  obtain ⟨ex, eh, ed, ew, es', ehs, k1, k2, k3, k4, k5, k6⟩ := h1.hx.ex
  rw [restart_st h.st.len] at g6
  refine ⟨_, rfl, y, _, dx, _, _, rfl, g1, T.cl, T.n4, sfld_start, _, rfl, _, _, stD p, rfl, dp_st ⟨s', rfl, g6⟩, dp_st h1.hu, by rw [(st_lay p).2]; decide, st_short (by omega), true, rfl, iteF ?_⟩
  refine ⟨_, rfl, y, _, dx, _, _, rfl, g1, T.cl, T.n2, sfld_diligent, _, rfl, x, _, ex, _, _, rfl, k1, T.cl, T.n2, sfld_diligent, stD ks, stD ks, .tup g4 (dp_ints ks), .tup k4 (dp_ints ks), st_shaped ks, st_shaped ks, _, rfl, ?_⟩
  rw [st_eqv, decide_eq_true rfl]
  refine iteF ?_
  refine t_test (e_op (meth_moves (v := u) rfl hy (fun Q q => ⟨_, rfl, q⟩) h1.hu stl rr.small fun D2 H2 s2 nD2 hD2 => ?_))
  obtain ⟨v2, e1, e2⟩ := hD2.ex
  rw [moves_of_steps es] at e2
  have h2 := h1.mono s2
  refine ⟨_, rfl, _, _, .lst (SqL.of e1) (dp_moves e2), dp_told h2, moves_shaped nm, moves_shaped nm, _, rfl, ?_⟩
  rw [moves_eqv3]
  refine iteF ?_
  show t_h8_14 g (endsQ Q) [some (.ref x), some (.ref rl), some u, some (.ref D), some (.ref mv), p5, p6, p7, some (.ref y), none, none] H2
  have s02 := s0.trans (s1.trans s2)
  refine s_rt (t_and (Q := Q) (meth_able (v := u) rfl h2.hx (fun Q q => ⟨_, rfl, q⟩) h2.hu h.st sm fun A H3 s3 nA hA => ?_))
  have al := able_len (rs := rs) (p := p)
  refine sorted_moved rfl ((s02.trans s3) _ _ hm) fm (by omega) fun A2 H4 s4 nA2 hA2 => ⟨_, _, lsD (ableOf rs p), rfl, .lst (SqL.of (s4 _ _ hA)) (dp_ints _), .lst (SqL.of hA2) (dp_ints _), by rw [(ls_lay _).2]; decide, ls_short (by omega), true, rfl, iteT ?_⟩
  have s24 := s3.trans s4
  refine e_op (meth_able (v := u) rfl (hy.mono (s2.trans s24)) (fun Q q => ⟨_, rfl, q⟩) (h2.hu.mono s24) stl rr.small fun A3 H5 s5 nA3 hA3 => ?_)
  rw [able_of_steps es] at hA3
  refine meth_able (v := u) rfl (h2.hx.mono (s24.trans s5)) (fun Q q => ⟨_, rfl, q⟩) (h2.hu.mono (s24.trans s5)) h.st sm fun A4 H6 s6 nA4 hA4 => ?_
  refine ⟨lsD (ableOf rs p), lsD (ableOf rs p), .lst (SqL.of (s6 _ _ hA3)) (dp_ints _), .lst (SqL.of hA4) (dp_ints _), ls_shaped _, ls_shaped _, ?_⟩
  rw [ls_eqv, decide_eq_true rfl]
  exact q H6 (s02.trans (s24.trans (s5.trans s6)))
/-- [1 for move in told if move[0] == word] -/
theorem lc_word {g : Ga} {σ : L2.St} {H : Hp} {Q : VK} {sd sw c : Nat} {D : Addr} {w : Str} {vs : List V} {ms : List Move} (h1 : σ[sd]? = some (some (.ref D))) (h2 : σ[sw]? = some (some (.str w))) (hc : c < σ.length) (hne : sw ≠ c) (hD : H D = some (.lst vs)) (hv : Paired (MoveAt g.K H) vs ms) (few : ms.length ≤ 5000)
    (q : ∀ E ys H', Same H H' → H E = none → H' E = some (.lst ys) → ys.length = (ms.filter fun m => decide (m.1 = w)).length → Q (.ref E) H') :
    tLc (iList g.K (tVar sd)) (gName c) (tTest (tOp rEq (tOp (rIxT g.K) (tVar c) (tC (.int 0))) (tVar sw))) (tC (.int 1)) [c] σ H Q := by
  have lv := hv.length
  refine ⟨_, h1, D, rfl, ⟨_, SqL.of hD⟩, fun E hE => ?_⟩
  refine lc_list (K := g.K) (a := D) (xs := vs) (fun i H' => Same H H' ∧ ∃ ys, H' E = some (.lst ys) ∧ ys.length = ((ms.take i).filter fun m => decide (m.1 = w)).length) ⟨Same.new hE, [], upd_same, rfl⟩ (fun i H' _ z => SqL.of (z.1 _ _ hD)) ?_ ?_
  · rintro i x H' hx ⟨sm, ys, hy, hl⟩
    obtain ⟨m, hm, a, b, rfl, ha, hb⟩ := paired_get hv hx
    have o1 : ((wipe σ [c]).set c (some (V.ref a)))[sw]? = some (some (.str w)) := by rw [blk_out hne]; exact h2
    refine ⟨blk_set _ hc, _, blk_own _ hc, a, _, _, .str m.1, rfl, rfl, Same.tup sm ha, rfl, _, o1, rfl, _, rfl, ?_⟩
    have ex : ((ms.take (i + 1)).filter fun m => decide (m.1 = w)).length = ((ms.take i).filter fun m => decide (m.1 = w)).length + if m.1 = w then 1 else 0 := by
      rw [List.take_add_one, hm, Option.toList_some, List.filter_append, List.length_append, List.filter_cons, List.filter_nil]
      by_cases h : m.1 = w <;> simp [h]
    have lys : ys.length ≤ 5000 := by
      rw [hl]
      have h1 := List.length_filter_le (fun m : Move => decide (m.1 = w)) (ms.take i)
      rw [List.length_take] at h1
      omega
    by_cases h : m.1 = w
    · rw [decide_eq_true (show V.str m.1 = V.str w by rw [h])]
      refine iteT ⟨ys, hy, big_line (by omega), Same.own sm hE, ys ++ [.int 1], upd_same, ?_⟩
      rw [ex, if_pos h, List.length_append, hl]; rfl
    · rw [decide_eq_false (show ¬ V.str m.1 = V.str w from fun z => h (by injection z))]
      refine iteF ⟨sm, ys, hy, ?_⟩
      rw [ex, if_neg h, hl]; rfl
  · rintro H' ⟨sm, ys, hy, hl⟩
    rw [lv, List.take_length] at hl
    exact q E ys H' sm hE hy hl
/-- from the words on -/
theorem pure_h8_6 {g : Ga} {B : Hp} {Q : VK} {p5 : Option V} {x rl D mv : Addr} {u : V} {vs : List V} {zs : List Str} {rs : List Rw} {ks p : List Int} (T : SysC g) (h : H8 g B x rl D u vs zs rs ks p) (hm : B mv = some (.lst ((natsI ((movesOf rs p).flatMap (movedBy rs.length))).map V.int))) (q : ∀ H', Same B H' → Q (.bl true) H') :
    t_h8_6 g (endsQ Q) [some (.ref x), some (.ref rl), some u, some (.ref D), some (.ref mv), p5, none, none, none, none, none] B := by
  have sm := h.dr.small (by decide) (by decide)
  have r24 : ∀ r ∈ rs, r.2.length ≤ 24 := fun r h' => (h.dr.ok r h').l2
  have n2 := h.dr.n2
  have pl := h.st.len
  have few := h.few
  have al := able_len (rs := rs) (p := p)
  have fm : ((movesOf rs p).flatMap (movedBy rs.length)).length ≤ 1000 := by
    have := moved_len rs.length (movesOf rs p)
    have h3 : rs.length * (movesOf rs p).length ≤ 3 * 256 := Nat.mul_le_mul n2 few
    omega
  refine ⟨_, rfl, rl, rs, rfl, h.hr, by omega, r24, fun W H1 s1 nW hW => ⟨W, rfl, ⟨_, SqL.of hW⟩, for_list (K := g.K) (a := W) (xs := (sysWords rs).map V.str) (fun i σ H' => ∃ p6 : Option V, σ = [some (.ref x), some (.ref rl), some u, some (.ref D), some (.ref mv), p5, p6, none, none, none, none] ∧ Same H1 H') ⟨none, rfl, Same.refl _⟩ (fun i σ H' _ ⟨_, _, z⟩ => SqL.of (z _ _ hW)) ?_ ?_⟩⟩
  · rintro i v σ H' hv ⟨p6, rfl, s2⟩
    obtain ⟨w, hw, rfl⟩ := map_get hv
    have h2 := h.mono (s1.trans s2)
    show t_h8_7 g _ [some (.ref x), some (.ref rl), some u, some (.ref D), some (.ref mv), p5, some (.str w), none, none, none, none] H'
    refine t_test (e_op (e_cb1 (lc_word (sd := 3) (sw := 6) (c := 10) rfl rfl (by show 10 < 11; decide) (by decide) h2.hD h2.hv (by omega) fun E ys H3 s3 nE hE ly => ?_)))
    have h3 := h2.mono s3
    refine ⟨E, ys, rfl, .inl (SqL.of hE), _, rfl, _, rfl, _, rfl, rl, u, w, rs, p, rfl, h3.hr, h3.hu, pl, sm, fun H4 s4 => ⟨rfl, _, rfl, ?_⟩⟩
    rw [decide_eq_true (show V.int (ys.length : Int) = V.int ((linesOf (numsAt rs p w)).length : Nat) by rw [ly, word_count (List.mem_of_getElem? hw)])]
    exact iteF ⟨_, rfl, s2.trans (s3.trans s4)⟩
  · rintro σ H' ⟨p6, rfl, s2⟩
    have s02 := s1.trans s2
    have h2 := h.mono s02
    show t_h8_8 g (endsQ Q) [some (.ref x), some (.ref rl), some u, some (.ref D), some (.ref mv), p5, p6, none, none, none, none] H'
    refine s_asg (meth_able (v := u) rfl h2.hx (fun Q q => ⟨_, rfl, q⟩) h2.hu h.st sm fun A H3 s3 nA hA => ?_)
    show t_h8_9 g (endsQ Q) [some (.ref x), some (.ref rl), some u, some (.ref D), some (.ref mv), p5, p6, some (.ref A), none, none, none] H3
    refine ⟨_, rfl, sorted_moved rfl ((s02.trans s3) _ _ hm) fm (by omega) fun A2 H4 s4 nA2 hA2 => ⟨_, _, lsD (ableOf rs p), rfl, .lst (SqL.of (s4 _ _ hA)) (dp_ints _), .lst (SqL.of hA2) (dp_ints _), by rw [(ls_lay _).2]; decide, ls_short (by omega), true, rfl, iteF ?_⟩⟩
    have hA4 := s4 _ _ hA
    show t_h8_10 g (endsQ Q) [some (.ref x), some (.ref rl), some u, some (.ref D), some (.ref mv), p5, p6, some (.ref A), none, none, none] H4
    refine s_drop ⟨_, rfl, .inl ⟨rfl, _, SqL.of hA4⟩, A, _, _, rfl, rfl, hA4, by rw [List.length_map]; exact big_line (by omega), ?_⟩
    have nA' : H' A = none := nA
    have s5 : Same H' (upd H4 A (.lst ((ableOf rs p).map V.int ++ [.int 0]))) := Same.own (s3.trans s4) nA'
    show t_h8_11 g (endsQ Q) [some (.ref x), some (.ref rl), some u, some (.ref D), some (.ref mv), p5, p6, some (.ref A), none, none, none] _
    refine s_drop ⟨_, rfl, .inl ⟨rfl, _, SqL.of upd_same⟩, A, _, rfl, rfl, upd_same, ?_⟩
    have s6 := Same.own (o := .lst ((ableOf rs p).map V.int ++ [V.int 0]).reverse) s5 nA'
    exact pure_h8_12 T h (s02.trans s6) hm fm q
end Sd
namespace Sd
open PySem PySem.Spec PyProof.Rows L2
theorem movedBy_snoc (m : Move) (k : Nat) : movedBy (k + 1) m = movedBy k m ++ if (m.2[k]?.getD none).isSome = true then [k] else [] := by
  unfold movedBy
  rw [List.range_succ, List.filter_append, List.filter_cons, List.filter_nil]
theorem pure_h8_5 {g : Ga} {D0 : Ends} {B H : Hp} {p6 p7 p8 p10 : Option V} {x rl D mv : Addr} {u v : V} {i : Nat} {vs : List V} {zs : List Str} {rs : List Rw} {ks p : List Int} {m : Move} {fs : List Nat} (h : H8 g B x rl D u vs zs rs ks p) (s0 : Same B H) (hm1 : (movesOf rs p)[i]? = some m) (hv : vs[i]? = some v) (hmv : H mv = some (.lst ((natsI fs).map V.int))) (fl : fs.length ≤ 1000)
    (q : ∀ mv' H', Same H H' → H' mv' = some (.lst ((natsI (fs ++ movedBy rs.length m)).map V.int)) → D0.nx [some (.ref x), some (.ref rl), some u, some (.ref D), some (.ref mv'), some (.int (i : Int)), p6, p7, p8, none, p10] H') :
    t_h8_5 g D0 [some (.ref x), some (.ref rl), some u, some (.ref D), some (.ref mv), some (.int (i : Int)), p6, p7, p8, none, p10] H := by
  have h1 := h.mono s0
  obtain ⟨xr, hxr, hxp⟩ := h1.hr.ex
  have lxr := hxp.length
  have n2 := h.dr.n2
  obtain ⟨m', hm', ma, mb, rfl, hma, hmb⟩ := paired_get h1.hv hv
  rw [hm1] at hm'
  cases hm'
  have ml := (valid_of (List.mem_of_getElem? hm1) h.st.len).1
  have axv : atI vs ((i : Nat) : Int) = some (.ref ma) := atI_nat hv
  refine ⟨_, rfl, _, rfl, rl, xr, rfl, .inl (SqL.of hxr), _, rfl, by omega, by omega, fun E hE => ?_⟩
  rw [Int.toNat_natCast]
  refine lc_range (n := xr.length) (fun k H' => Same H H' ∧ H' E = some (.lst ((natsI (movedBy k m)).map V.int))) ⟨Same.new hE, upd_same⟩ ?_ ?_
  · rintro k H' hk ⟨s1, hEk⟩
    have kl : k < m.2.length := by omega
    have axm : atI (m.2.map optV) (0 + (k : Int)) = some (optV m.2[k]) := by rw [Int.zero_add]; exact atI_nat (by rw [List.getElem?_map, List.getElem?_eq_getElem kl]; rfl)
    have eg : (m.2[k]?.getD none).isSome = (m.2[k]).isSome := by rw [List.getElem?_eq_getElem kl]; rfl
    refine ⟨rfl, _, rfl, _, rfl, D, vs, _, .ref ma, rfl, rfl, SqL.of (s1 _ _ h1.hD), axv, ma, _, _, .ref mb, rfl, rfl, Same.tup s1 hma, rfl, _, rfl, mb, _, _, optV m.2[k], rfl, rfl, Same.tup s1 hmb, axm, rfl, _, rfl, ?_⟩
    have lk : (natsI (movedBy k m)).length ≤ 1000 := by
      unfold natsI movedBy
      rw [List.length_map]
      have := List.length_filter_le (fun k => (m.2[k]?.getD none).isSome) (List.range k)
      rw [List.length_range] at this
      omega
    cases e : m.2[k] with
    | none =>
      refine iteF ⟨s1, ?_⟩
      rw [movedBy_snoc, eg, e, if_neg (by decide), List.append_nil]
      exact hEk
    | some z =>
      rw [decide_eq_false (show ¬ optV (some z) = V.non from fun z => by cases z)]
      refine iteT ⟨_, rfl, _, hEk, by rw [List.length_map]; exact small1000 lk, Same.own s1 hE, ?_⟩
      rw [upd_same, movedBy_snoc, eg, e, if_pos (show (some z).isSome = true from rfl), Int.zero_add]
      unfold natsI
      rw [List.map_append, List.map_append]; rfl
  · rintro H' ⟨s1, hEk⟩
    rw [lxr] at hEk
    have lk : (natsI (movedBy rs.length m)).length ≤ 1000 := by
      unfold natsI movedBy
      rw [List.length_map]
      have := List.length_filter_le (fun k => (m.2[k]?.getD none).isSome) (List.range rs.length)
      rw [List.length_range] at this
      omega
    have lf : (natsI fs).length = fs.length := by unfold natsI; rw [List.length_map]
    refine ⟨mv, E, _, _, rfl, rfl, s1 _ _ hmv, hEk, by rw [List.length_map, List.length_map]; exact Nat.le_of_lt (big_line (by omega)), fun c hc => ?_⟩
    refine q c _ (s1.trans (Same.new hc)) ?_
    rw [upd_same]
    unfold natsI
    rw [List.map_append, List.map_append]
theorem pure_h8_3 {g : Ga} {D0 : Ends} {B H : Hp} {p6 p7 p8 p10 : Option V} {x rl D mv : Addr} {u : V} {i : Nat} {vs : List V} {zs : List Str} {rs : List Rw} {ks p : List Int} {fs : List Nat} (h : H8 g B x rl D u vs zs rs ks p) (s0 : Same B H) (il : i < vs.length) (hmv : H mv = some (.lst ((natsI fs).map V.int))) (fl : fs.length ≤ 1000)
    (q : ∀ m mv' H', (movesOf rs p)[i]? = some m → Same B H' → H' mv' = some (.lst ((natsI (fs ++ movedBy rs.length m)).map V.int)) → D0.nx [some (.ref x), some (.ref rl), some u, some (.ref D), some (.ref mv'), some (.int (i : Int)), p6, p7, p8, none, p10] H') :
    t_h8_3 g D0 [some (.ref x), some (.ref rl), some u, some (.ref D), some (.ref mv), some (.int (i : Int)), p6, p7, p8, none, p10] H := by
  have sm := h.dr.small (by decide) (by decide)
  have r24 : ∀ r ∈ rs, r.2.length ≤ 24 := fun r h' => (h.dr.ok r h').l2
  have n2 := h.dr.n2
  have few := h.few
  have h1 := h.mono s0
  have hv : vs[i]? = some vs[i] := List.getElem?_eq_getElem il
  obtain ⟨m, hm1, mvv⟩ := paired_get h1.hv hv
  have mm := List.mem_of_getElem? hm1
  have axv : atI vs ((i : Nat) : Int) = some vs[i] := atI_nat hv
  have nm : ∀ m ∈ movesOf rs p, IsName m.1 := fun m hm => h.dr.names (moves_word hm)
  obtain ⟨vl, val⟩ := valid_of mm h.st.len
  refine ⟨_, rfl, _, rfl, _, rfl, _, rfl, D, vs, _, vs[i], rfl, rfl, SqL.of h1.hD, axv, rl, u, vs[i], rs, p, m, rfl, h1.hr, h1.hu, mvv, h.st.len, sm, r24, mm, fun H2 s2 => ⟨true, rfl, iteF ?_⟩⟩
  have h2 := h1.mono s2
  refine ⟨_, rfl, _, rfl, D, vs, _, vs[i], rfl, rfl, SqL.of h2.hD, axv, _, rfl, _, rfl, _, rfl, D, vs, rfl, SqL.of h2.hD, fun c hc => ?_⟩
  rw [cutV_to (by omega)]
  have s3 : Same H2 (upd H2 c (.lst (vs.take i))) := Same.new hc
  have h3 := h2.mono s3
  refine ⟨moveD m, ((movesOf rs p).take i).map moveD, dp_move (mvv.mono (s2.trans s3)), .lst (SqL.of upd_same) (dp_moves (paired_take i h3.hv)), move_shaped (nm m mm), moves_shaped fun m' h' => nm m' (List.mem_of_mem_take h'), _, rfl, ?_⟩
  rw [any_move2, decide_eq_false (not_in_take (moves_nodup h.st.len) hm1)]
  refine iteF ?_
  generalize upd H2 c (.lst (vs.take i)) = H3 at s3 h3
  have s03 := s0.trans (s2.trans s3)
  show t_h8_4 g D0 [some (.ref x), some (.ref rl), some u, some (.ref D), some (.ref mv), some (.int (i : Int)), p6, p7, p8, none, p10] H3
  refine s_nif (meth_behind (u := u) (v := vs[i]) (m := m) rfl h3.hx (fun Q q => ⟨_, rfl, q⟩) (fun Q q => ⟨_, rfl, _, rfl, D, vs, _, vs[i], rfl, rfl, SqL.of h3.hD, axv, q⟩) sm h3.hu h.st (mvv.mono (s2.trans s3)) mm fun w H4 s4 hw => ?_)
  have h4 := h3.mono s4
  have bl := beh_len rs p m.2
  refine ⟨_, rfl, _, rfl, _, rfl, _, rfl, D, vs, _, vs[i], rfl, rfl, SqL.of h4.hD, axv, rl, u, vs[i], rs, p, m, rfl, h4.hr, h4.hu, mvv.mono (s2.trans (s3.trans s4)), h.st.len, vl, val, by omega, fun w2 H5 s5 hw2 => ?_⟩
  refine ⟨_, _, stD (behindOf rs p m.2), rfl, dp_st (hw.mono s5), dp_st hw2, by rw [(st_lay _).2]; decide, st_short (by omega), true, rfl, iteF ?_⟩
  have s35 := s4.trans s5
  have sH5 : Same H H5 := s2.trans (s3.trans s35)
  show t_h8_5 g D0 [some (.ref x), some (.ref rl), some u, some (.ref D), some (.ref mv), some (.int (i : Int)), p6, p7, p8, none, p10] H5
  exact pure_h8_5 h (s0.trans sH5) hm1 hv (sH5 _ _ hmv) fl fun mv' H6 s6 hmv' => q m mv' H6 hm1 (s0.trans (sH5.trans s6)) hmv'
theorem pure_k08__law_holds {g : Ga} {vs : List V} {H : Hp} {Q : VK} {E : XK} {N : List Str} (T : SysC g) (hN : N.length = 11) (h : sp_k08_holds g vs H Q E) : t_k08__law_holds g (endsQ Q) (L2.start N vs) H := by
  obtain ⟨x, rl, u, zs, rs, ks, p, rfl, hx, hr, dr, hu, st, q⟩ := h
  have e0 : L2.start N [.ref x, .ref rl, u] = [some (.ref x), some (.ref rl), some u, none, none, none, none, none, none, none, none] := by unfold L2.start; rw [hN]; rfl
  rw [e0]
  have sm := dr.small (by decide) (by decide)
  have n2 := dr.n2
  refine s_asg (meth_moves (v := u) rfl hx (fun Q q => ⟨_, rfl, q⟩) hu st sm fun D H1 s1 nD hD => ?_)
  obtain ⟨vs, hv1, hv2⟩ := hD.ex
  have h1 : H8 g H1 x rl D u vs zs rs ks p := ⟨hx.mono s1, hr.mono s1, dr, hu.mono s1, st, hv1, hv2⟩
  have lv := hv2.length
  have few := h1.few
  show t_h8_1 g (endsQ Q) [some (.ref x), some (.ref rl), some u, some (.ref D), none, none, none, none, none, none, none] H1
  refine ⟨by show 0 ≤ sizeLine; decide, fun m0 hm0 => ?_⟩
  have s2 : Same H1 (upd H1 m0 (.lst [])) := Same.new hm0
  show t_h8_2 g (endsQ Q) [some (.ref x), some (.ref rl), some u, some (.ref D), some (.ref m0), none, none, none, none, none, none] _
  refine ⟨_, rfl, D, vs, rfl, .inl (SqL.of (s2 _ _ hv1)), _, rfl, by omega, by omega, for_range (n := vs.length) (fun i σ H' => ∃ (mv : Addr) (p5 : Option V), σ = [some (.ref x), some (.ref rl), some u, some (.ref D), some (.ref mv), p5, none, none, none, none, none] ∧ Same H1 H' ∧ H' mv = some (.lst ((natsI (((movesOf rs p).take i).flatMap (movedBy rs.length))).map V.int))) ⟨m0, none, rfl, s2, upd_same⟩ ?_ ?_⟩
  · rintro i σ H' hi ⟨mv, p5, rfl, s3, hmv⟩
    have fl : (((movesOf rs p).take i).flatMap (movedBy rs.length)).length ≤ 1000 := by
      have := moved_len rs.length ((movesOf rs p).take i)
      have h3 : rs.length * ((movesOf rs p).take i).length ≤ 3 * 256 := Nat.mul_le_mul n2 (by rw [List.length_take]; omega)
      omega
    show t_h8_3 g _ [some (.ref x), some (.ref rl), some u, some (.ref D), some (.ref mv), some (.int (0 + (i : Int))), none, none, none, none, none] H'
    rw [Int.zero_add]
    refine pure_h8_3 h1 s3 hi hmv fl fun m mv' H4 hm s4 hmv' => ⟨mv', _, rfl, s4, ?_⟩
    rw [List.take_add_one, hm, Option.toList_some, List.flatMap_append, List.flatMap_cons, List.flatMap_nil, List.append_nil]
    exact hmv'
  · rintro σ H' ⟨mv, p5, rfl, s3, hmv⟩
    rw [lv, List.take_length] at hmv
    exact pure_h8_6 T (h1.mono s3) hmv fun H4 s4 => q H4 (s1.trans (s3.trans s4))
/-! ### the law -/
def sp_k08_law (g : Ga) : Sp := fun vs H Q _ => ∃ (a : Addr) (ns : List Int), vs = [.ref a] ∧ SqL g.K H a (ns.map V.int) ∧ ns.length ≤ 63 ∧ ∀ H', Q (.bl true) H'
def t_k08_4 (g : Ga) : TS := (tIfS (tOr (tTest (tOp (rNeD g.K) (tMeth g.cSystem "moves" (sp_System_moves g) [] E0 (tVar 2) (tCons (tVar 4) tNil)) (tMeth g.cSystem "moves" (sp_System_moves g) [] E0 (tVar 3) (tCons (tVar 4) tNil)))) (tTest (tOp (rNeD g.K) (tMeth g.cSystem "able" (sp_System_able g) [] E0 (tVar 2) (tCons (tVar 4) tNil)) (tMeth g.cSystem "able" (sp_System_able g) [] E0 (tVar 3) (tCons (tVar 4) tNil))))) (tRet (tC (.bl false))) tNext)
def t_k08_3 (g : Ga) : TS := (tSeq (tIfS (tNot (tB (tCall (sp_k08_holds g) [] E0 (tCons (tVar 2) (tCons (tOp (rIxT g.K) (tVar 1) (tC (.int 0))) (tCons (tVar 4) tNil)))))) (tRet (tC (.bl false))) tNext) (t_k08_4 g))
def t_k08_2 (g : Ga) : TS := (tSeq (tFor (iList g.K (tCall (sp_law_standings g) [] E0 (tCons (tOp (rIxT g.K) (tVar 1) (tC (.int 0))) tNil))) (gName 4) (t_k08_3 g)) (tRet (tC (.bl true))))
def t_k08_1 (g : Ga) : TS := (tSeq (tAsg (tMake g.cSystem (sp_System_init g) [] E0 (tCons (tCB (rListS g.K) (tCons (tFld g.K (tVar 2) "hands") tNil)) (tCons (tLst tNil) tNil))) (gName 3)) (t_k08_2 g))
def t_k08_law (g : Ga) : TS := (tSeq (tAsg (tCall (sp_law_rows g) [] E0 (tCons (tVar 0) (tCons (tC (.int 3)) (tCons (tC (.int 4)) (tCons (tC (.int 3)) (tCons (tC (.int 5)) tNil)))))) (gName 1)) (tSeq (tAsg (tCall (sp_law_system g) [] E0 (tCons (tOp (rIxT g.K) (tVar 1) (tC (.int 0))) (tCons (tOp (rIxT g.K) (tVar 1) (tC (.int 1))) tNil))) (gName 2)) (t_k08_1 g)))
theorem pure_k08_law {g : Ga} {vs : List V} {H : Hp} {Q : VK} {E : XK} {N : List Str} (T : SysC g) (hN : N.length = 5) (h : sp_k08_law g vs H Q E) : t_k08_law g (endsQ Q) (L2.start N vs) H := by
  obtain ⟨a, ns, rfl, ha, n63, q⟩ := h
  have e0 : L2.start N [.ref a] = [some (.ref a), none, none, none, none] := by unfold L2.start; rw [hN]; rfl
  rw [e0]
  refine ⟨_, rfl, a, ns, 3, 4, 3, 5, rfl, ha, by decide, by decide, by decide, by decide, by decide, by decide, by decide, by decide, fun pt rl cl rs ks zs H1 s1 npt nrl ncl hpt hr hcl dr => ?_⟩
  have sm := dr.small (by decide) (by decide)
  have sr := dr.sys (by decide) (by decide) (by decide)
  have r24 : ∀ r ∈ rs, r.2.length ≤ 24 := fun r h => (dr.ok r h).l2
  have n2 := dr.n2
  refine ⟨_, rfl, pt, _, _, .ref rl, rfl, rfl, SqT.of hpt, rfl, _, rfl, pt, _, _, .ref cl, rfl, rfl, SqT.of hpt, rfl, rl, cl, rs, ks, rfl, hr, hcl, sr, fun x H2 s2 nx hx => ?_⟩
  show t_k08_1 g (endsQ Q) [some (.ref a), some (.ref pt), some (.ref x), none, none] H2
  obtain ⟨dx, hh, d', w', s', hs, g1, g2, g3, g4, g5, g6⟩ := hx.ex
  refine s_asg ⟨_, rfl, x, _, dx, _, _, rfl, g1, T.cl, T.n1, sfld_hands, hh, hs, rfl, .inr g2, fun lh hlh => ⟨by show 0 ≤ sizeLine; decide, fun em hem => ?_⟩⟩
  have s3 : Same H2 (upd H2 lh (.lst hs)) := Same.new hlh
  have s4 : Same (upd H2 lh (.lst hs)) (upd (upd H2 lh (.lst hs)) em (.lst [])) := Same.new hem
  have s34 := s3.trans s4
  have hlh4 := s4 _ _ (upd_same (o := HO.lst hs) (H := H2) (a := lh))
  have hem4 : (upd (upd H2 lh (.lst hs)) em (.lst [])) em = some (.lst []) := upd_same
  generalize upd (upd H2 lh (.lst hs)) em (.lst []) = H4 at s4 s34 hlh4 hem4
  intro y dy ny ndy ne
  have s5' : Same H4 (upd (upd H4 dy (.own y)) y (.ins g.cSystem dy [])) := Same.own (Same.new ndy) ny
  have hdl : DilV g H4 (.ref em) rs.length [] := .inr ⟨[], ⟨em, rfl, .inl (SqL.of hem4)⟩, Nat.zero_le _, List.nodup_nil, (fun k h => by cases h), List.Pairwise.nil, fun _ => Iff.rfl⟩
  refine ⟨y, dy, .ref lh, .ref em, hs, rs, [], rfl, upd_same, seqOf_mono s5' ⟨lh, rfl, .inl (SqL.of hlh4)⟩, paired_mono (fun _ _ z => z.mono (s34.trans s5')) g3, sr.n1, sr.n4, sr.w8, hdl.mono s5', fun z => absurd z (by have := sr.w12; omega), fun _ H5 ch hy => ⟨rfl, ?_⟩⟩
  have s5 : Same H4 H5 := Same.ch s5' ny ch
  have s25 := s34.trans s5
  have s15 := s2.trans s25
  show t_k08_2 g (endsQ Q) [some (.ref a), some (.ref pt), some (.ref x), some (.ref y), none] H5
  refine ⟨_, rfl, pt, _, _, .ref rl, rfl, rfl, SqT.of (s15 _ _ hpt), rfl, rl, rs, rfl, hr.mono s15, n2, r24, dr.r3, fun D xs ps H6 s6 hD hxs hst l27 => ?_⟩
  have s16 := s15.trans s6
  have nm : ∀ w ∈ sysWords rs, IsName w := fun w h => dr.names h
  refine ⟨D, rfl, ⟨_, SqL.of hD⟩, for_list (K := g.K) (a := D) (xs := xs) (fun i σ H' => ∃ p4 : Option V, σ = [some (.ref a), some (.ref pt), some (.ref x), some (.ref y), p4] ∧ Same H6 H') ⟨none, rfl, Same.refl _⟩ (fun i σ H' _ ⟨_, _, z⟩ => SqL.of (z _ _ hD)) ?_ ?_⟩
  · rintro i v σ H' hv ⟨p4, rfl, s7⟩
    obtain ⟨p, hp1, stp⟩ := paired_get hxs hv
    have sti := hst p (List.mem_of_getElem? hp1)
    have s17 := s16.trans s7
    have s27 := s25.trans (s6.trans s7)
    have s57 := s6.trans s7
    show t_k08_3 g _ [some (.ref a), some (.ref pt), some (.ref x), some (.ref y), some v] H'
    refine ⟨_, rfl, _, rfl, pt, _, _, .ref rl, rfl, rfl, SqT.of (s17 _ _ hpt), rfl, _, rfl, x, rl, v, zs, rs, ks, p, rfl, hx.mono s27, hr.mono s17, dr, stp.mono s7, sti, fun H8 s8 => ⟨true, rfl, iteF ?_⟩⟩
    have s28 := s27.trans s8
    have s58 := s57.trans s8
    have st8 := stp.mono (s7.trans s8)
    show t_k08_4 g _ [some (.ref a), some (.ref pt), some (.ref x), some (.ref y), some v] H8
    refine t_test (e_op (meth_moves (v := v) rfl (hx.mono s28) (fun Q q => ⟨_, rfl, q⟩) st8 sti sm fun D1 H9 s9 nD1 hD1 => ?_))
    refine meth_moves (v := v) rfl (hy.mono (s58.trans s9)) (fun Q q => ⟨_, rfl, q⟩) (st8.mono s9) sti sm fun D2 H10 s10 nD2 hD2 => ?_
    obtain ⟨v1, a1, b1⟩ := (hD1.mono s10).ex
    obtain ⟨v2, a2, b2⟩ := hD2.ex
    refine ⟨_, _, .lst (SqL.of a1) (dp_moves b1), .lst (SqL.of a2) (dp_moves b2), moves_shaped fun m h => nm _ (moves_word h), moves_shaped fun m h => nm _ (moves_word h), _, rfl, ?_⟩
    rw [moves_eqv3]
    refine iteF ?_
    have s810 := s9.trans s10
    refine t_test (e_op (meth_able (v := v) rfl (hx.mono (s28.trans s810)) (fun Q q => ⟨_, rfl, q⟩) (st8.mono s810) sti sm fun A1 H11 s11 nA1 hA1 => ?_))
    refine meth_able (v := v) rfl (hy.mono (s58.trans (s810.trans s11))) (fun Q q => ⟨_, rfl, q⟩) (st8.mono (s810.trans s11)) sti sm fun A2 H12 s12 nA2 hA2 => ?_
    refine ⟨lsD (ableOf rs p), lsD (ableOf rs p), .lst (SqL.of (s12 _ _ hA1)) (dp_ints _), .lst (SqL.of hA2) (dp_ints _), ls_shaped _, ls_shaped _, _, rfl, ?_⟩
    rw [ls_eqv, decide_eq_true rfl]
    exact iteF ⟨_, rfl, s7.trans (s8.trans (s810.trans (s11.trans s12)))⟩
  · rintro σ H' ⟨p4, rfl, s7⟩
    exact q H'
end Sd
namespace Sd
open PySem PySem.Spec PyProof.Rows L2
/-! the written part says of a class of errors all that the layer asks -/
def oexB (K : PySem.W.Frag) (C : Addr) : Bool := match K.lookup C with
  | some ⟨.type "type", _, .cls cd, sl⟩ => (match cd.mro, sl.toList with
    | .ref C' :: bm, [_, _, _, _, some (.builtin n), _] => decide (C' = C) && (decide (n = "ValueError.__new__") && (!cd.hasDel && (cd.hasDict && PySem.HandSPX.refsVE bm)))
    | _, _ => false)
  | _ => false
theorem oexB_ok {K : PySem.W.Frag} {C : Addr} (q : oexB K C = true) : ∃ nm q N bs bm sn sub ab col dd k0 k1 k2 k3 k5, K.lookup C = some (excClassObj nm q C N bs bm true sn sub ab col dd k0 k1 k2 k3 k5 "ValueError.__new__") ∧ PySem.HandSPX.refsVE bm = true := by
  unfold oexB at q
  split at q
  · rename_i dd cd sl ho
    split at q
    · rename_i C' bm k0 k1 k2 k3 n k5 hm hs
      obtain ⟨q1, q⟩ := Bool.and_eq_true_iff.mp q
      obtain ⟨q2, q⟩ := Bool.and_eq_true_iff.mp q
      obtain ⟨q3, q⟩ := Bool.and_eq_true_iff.mp q
      obtain ⟨q4, q5⟩ := Bool.and_eq_true_iff.mp q
      have e1 := of_decide_eq_true q1
      have e2 := of_decide_eq_true q2
      subst e1 e2
      obtain ⟨nm, bs, mro, ns, qn, hd, sn, sub, ab, col, del⟩ := cd
      dsimp only at hm q3 q4
      have e3 : del = false := by cases del <;> simp_all
      subst hm e3 q4
      have hsl : sl = #[k0, k1, k2, k3, some (.builtin "ValueError.__new__"), k5] := by
        obtain ⟨l⟩ := sl
        simp only at hs
        rw [hs]
      subst hsl
      exact ⟨nm, qn, ns, bs, bm, sn, sub, ab, col, dd, k0, k1, k2, k3, k5, ho, q5⟩
    · cases q
  · cases q
def xB (K : PySem.W.Frag) (x f : Str) : Bool := oexB K (He.ga K x) && (xfB K (He.ga K x) && (decide (PySem.W.findIn K (.ref (He.ga K x)) "__setattr__" = some (some (.builtin "object.__setattr__"))) && (decide (PySem.W.typeIn K (.ref (He.ga K x)) = some (.type "type")) && (PySem.W.keepIn K (.ref (He.ga K x)) && (decide (PySem.W.findIn K (.ref (He.ga K x)) f = some none) &&
  (decide (PySem.W.findIn K (.ref (He.ga K x)) "__init__" = some (some (.ref (He.fAd K (x, some "__init__"))))) && decide (PySem.W.typeIn K (.ref (He.fAd K (x, some "__init__"))) = some (.type "function"))))))))
theorem xB_ok {g : Ga} {x f : Str} (h : xB g.K x f = true) : OexC g.K (g.c x) ∧ XfC g.K (g.c x) ∧ PySem.W.findIn g.K (.ref (g.c x)) f = some none ∧ PySem.W.findIn g.K (.ref (g.c x)) "__init__" = some (some (.ref (He.fAd g.K (x, some "__init__")))) ∧ PySem.W.typeIn g.K (.ref (He.fAd g.K (x, some "__init__"))) = some (.type "function") := by
  obtain ⟨h1, h⟩ := Bool.and_eq_true_iff.mp h
  obtain ⟨h2, h⟩ := Bool.and_eq_true_iff.mp h
  obtain ⟨h3, h⟩ := Bool.and_eq_true_iff.mp h
  obtain ⟨h4, h⟩ := Bool.and_eq_true_iff.mp h
  obtain ⟨h5, h⟩ := Bool.and_eq_true_iff.mp h
  obtain ⟨h6, h⟩ := Bool.and_eq_true_iff.mp h
  obtain ⟨h7, h8⟩ := Bool.and_eq_true_iff.mp h
  have xf := xfB_ok h2
  exact ⟨⟨oexB_ok h1, of_decide_eq_true h3, xf.exC, of_decide_eq_true h4, h5⟩, xf, of_decide_eq_true h6, of_decide_eq_true h7, of_decide_eq_true h8⟩
/-- walkE where what may be let out hangs on the world; nothing is let out of the law -/
theorem walkW {l : PySem.W.OpenLaw} {n k : Nat} {q : Program} {loose : List Str} {XP : (Str → Option Value) → Heap → Prop} {YP : World → Heap → Prop} {d : DefRec} {x : Str}
    (hn : l.most = some n) (hn2 : n ≤ sizeLine) (hdf : d.params.defaults = []) (hr : Room k callerA)
    (F : ∀ (w : World) (mg : Str → Option Value) (fa : Addr) (h : Heap), YP w h → h.Ns mainGlobals mg → mg d.name = some (.ref fa) →
      ∃ (K : PySem.W.Frag) (fd : FuncData) (sp : Sp), K.In h ∧ (∀ (s : Shared) (u : Value), BindsTo s fd ⟨[u], []⟩ [(x, u)]) ∧
        (∀ (H : Hp) (a : Addr) (ns : List Int), ns.length ≤ n → (∀ i ∈ ns, Builtin.Int.intBits i ≤ 1048576) → SqL K H a (ns.map V.int) → sp [.ref a] H (fun v _ => v = .bl true) fun _ _ _ => False) ∧
        ∀ base : Heap, K.In base → base.Ns mainGlobals mg → FnOk l.prog w K mg base (L2.CX l.prog w) k fa fd [x] sp) :
    PySem.W.WalkO q loose XP YP l.row.toRowW d [] (fun f vs => PySem.call f vs) := by
  refine Att.attach_callB hn hdf fun w s₀ s₁ mg mb fa o pm cd doc a vs ns G Y ho hd hcd hmg hobj hints hlen hbits hg => ?_
  obtain ⟨K, fd, sp, KX, hb, hsp, hF⟩ := F w mg fa _ Y G.T.g hmg
  refine law_call KX G.T.g G.T.b G.T.builtins G.T.nolimit hg hobj hints (Nat.le_trans hlen hn2) hr hF hb (fun H _ hS => hsp H a ns hlen hbits hS) fun H e s' z => ?_
  obtain ⟨_, _, _, _, _, _, _, _, _, _, _, _, z⟩ := z
  exact z
end Sd
namespace K08R
open PySem PySem.Spec PyProof.Rows L2 Sd
def top (i : Nat) : Stmt := PySem.Challenge.pw_surelydone_k08_whole_moves_behind_and_ab.main.body.getD i (.Pass ⟨0, 0, 0, 0⟩)
abbrev s_is_integer : Stmt := top 3
abbrev N_is_integer : List Str := ["thing"]
abbrev P_is_integer : List Str := ["thing"]
theorem sc_is_integer : FnScope N_is_integer P_is_integer (defScope s_is_integer) := ⟨rfl, rfl, rfl, by decide +kernel, rfl, by decide +kernel, by decide +kernel⟩
def d_is_integer : He.DefD := ⟨("is_integer", none), "is_integer", "is_integer", defArgs s_is_integer, defBody s_is_integer, defScope s_is_integer, [], []⟩
abbrev s_is_state : Stmt := top 4
abbrev N_is_state : List Str := ["thing"]
abbrev P_is_state : List Str := ["thing"]
theorem sc_is_state : FnScope N_is_state P_is_state (defScope s_is_state) := ⟨rfl, rfl, rfl, by decide +kernel, rfl, by decide +kernel, by decide +kernel⟩
def d_is_state : He.DefD := ⟨("is_state", none), "is_state", "is_state", defArgs s_is_state, defBody s_is_state, defScope s_is_state, [], []⟩
abbrev s_is_name : Stmt := top 5
abbrev N_is_name : List Str := ["thing", "letter"]
abbrev P_is_name : List Str := ["thing"]
theorem sc_is_name : FnScope N_is_name P_is_name (defScope s_is_name) := ⟨rfl, rfl, rfl, by decide +kernel, rfl, by decide +kernel, by decide +kernel⟩
def d_is_name : He.DefD := ⟨("is_name", none), "is_name", "is_name", defArgs s_is_name, defBody s_is_name, defScope s_is_name, [], []⟩
abbrev s_is_row : Stmt := top 6
abbrev N_is_row : List Str := ["thing"]
abbrev P_is_row : List Str := ["thing"]
theorem sc_is_row : FnScope N_is_row P_is_row (defScope s_is_row) := ⟨rfl, rfl, rfl, by decide +kernel, rfl, by decide +kernel, by decide +kernel⟩
def d_is_row : He.DefD := ⟨("is_row", none), "is_row", "is_row", defArgs s_is_row, defBody s_is_row, defScope s_is_row, [], []⟩
abbrev s_is_step : Stmt := top 7
abbrev N_is_step : List Str := ["thing"]
abbrev P_is_step : List Str := ["thing"]
theorem sc_is_step : FnScope N_is_step P_is_step (defScope s_is_step) := ⟨rfl, rfl, rfl, by decide +kernel, rfl, by decide +kernel, by decide +kernel⟩
def d_is_step : He.DefD := ⟨("is_step", none), "is_step", "is_step", defArgs s_is_step, defBody s_is_step, defScope s_is_step, [], []⟩
abbrev s_BadState_init : Stmt := inClass (top 10) 0
abbrev N_BadState_init : List Str := ["self", "value"]
abbrev P_BadState_init : List Str := ["self", "value"]
theorem sc_BadState_init : FnScope N_BadState_init P_BadState_init (defScope s_BadState_init) := ⟨rfl, rfl, rfl, by decide +kernel, rfl, by decide +kernel, by decide +kernel⟩
def d_BadState_init : He.DefD := ⟨("BadState", some "__init__"), "__init__", "BadState.__init__", defArgs s_BadState_init, defBody s_BadState_init, defScope s_BadState_init, [], []⟩
abbrev s_BadSteps_init : Stmt := inClass (top 11) 0
abbrev N_BadSteps_init : List Str := ["self", "at"]
abbrev P_BadSteps_init : List Str := ["self", "at"]
theorem sc_BadSteps_init : FnScope N_BadSteps_init P_BadSteps_init (defScope s_BadSteps_init) := ⟨rfl, rfl, rfl, by decide +kernel, rfl, by decide +kernel, by decide +kernel⟩
def d_BadSteps_init : He.DefD := ⟨("BadSteps", some "__init__"), "__init__", "BadSteps.__init__", defArgs s_BadSteps_init, defBody s_BadSteps_init, defScope s_BadSteps_init, [], []⟩
abbrev s_TooMany_init : Stmt := inClass (top 16) 0
abbrev N_TooMany_init : List Str := ["self", "limit"]
abbrev P_TooMany_init : List Str := ["self", "limit"]
theorem sc_TooMany_init : FnScope N_TooMany_init P_TooMany_init (defScope s_TooMany_init) := ⟨rfl, rfl, rfl, by decide +kernel, rfl, by decide +kernel, by decide +kernel⟩
def d_TooMany_init : He.DefD := ⟨("TooMany", some "__init__"), "__init__", "TooMany.__init__", defArgs s_TooMany_init, defBody s_TooMany_init, defScope s_TooMany_init, [], []⟩
abbrev s_leaving : Stmt := top 22
abbrev N_leaving : List Str := ["steps", "state", "step"]
abbrev P_leaving : List Str := ["steps", "state"]
theorem sc_leaving : FnScope N_leaving P_leaving (defScope s_leaving) := ⟨rfl, rfl, rfl, by decide +kernel, rfl, by decide +kernel, by decide +kernel⟩
def d_leaving : He.DefD := ⟨("leaving", none), "leaving", "leaving", defArgs s_leaving, defBody s_leaving, defScope s_leaving, [], []⟩
abbrev s_checked_steps : Stmt := top 23
abbrev N_checked_steps : List Str := ["steps", "kept", "at", "step"]
abbrev P_checked_steps : List Str := ["steps"]
theorem sc_checked_steps : FnScope N_checked_steps P_checked_steps (defScope s_checked_steps) := ⟨rfl, rfl, rfl, by decide +kernel, rfl, by decide +kernel, by decide +kernel⟩
def d_checked_steps : He.DefD := ⟨("checked_steps", none), "checked_steps", "checked_steps", defArgs s_checked_steps, defBody s_checked_steps, defScope s_checked_steps, [], []⟩
abbrev s_reached_states : Stmt := top 24
abbrev N_reached_states : List Str := ["start", "steps", "found", "at", "step"]
abbrev P_reached_states : List Str := ["start", "steps"]
theorem sc_reached_states : FnScope N_reached_states P_reached_states (defScope s_reached_states) := ⟨rfl, rfl, rfl, by decide +kernel, rfl, by decide +kernel, by decide +kernel⟩
def d_reached_states : He.DefD := ⟨("reached_states", none), "reached_states", "reached_states", defArgs s_reached_states, defBody s_reached_states, defScope s_reached_states, [], []⟩
abbrev s_Hand_init : Stmt := inClass (top 25) 0
abbrev N_Hand_init : List Str := ["self", "start", "steps", "kept", "words", "states", "step"]
abbrev P_Hand_init : List Str := ["self", "start", "steps"]
theorem sc_Hand_init : FnScope N_Hand_init P_Hand_init (defScope s_Hand_init) := ⟨rfl, rfl, rfl, by decide +kernel, rfl, by decide +kernel, by decide +kernel⟩
def d_Hand_init : He.DefD := ⟨("Hand", some "__init__"), "__init__", "Hand.__init__", defArgs s_Hand_init, defBody s_Hand_init, defScope s_Hand_init, [], []⟩
abbrev s_BadHands_init : Stmt := inClass (top 12) 0
abbrev N_BadHands_init : List Str := ["self", "at"]
abbrev P_BadHands_init : List Str := ["self", "at"]
theorem sc_BadHands_init : FnScope N_BadHands_init P_BadHands_init (defScope s_BadHands_init) := ⟨rfl, rfl, rfl, by decide +kernel, rfl, by decide +kernel, by decide +kernel⟩
def d_BadHands_init : He.DefD := ⟨("BadHands", some "__init__"), "__init__", "BadHands.__init__", defArgs s_BadHands_init, defBody s_BadHands_init, defScope s_BadHands_init, [], []⟩
abbrev s_BadDiligent_init : Stmt := inClass (top 13) 0
abbrev N_BadDiligent_init : List Str := ["self", "value"]
abbrev P_BadDiligent_init : List Str := ["self", "value"]
theorem sc_BadDiligent_init : FnScope N_BadDiligent_init P_BadDiligent_init (defScope s_BadDiligent_init) := ⟨rfl, rfl, rfl, by decide +kernel, rfl, by decide +kernel, by decide +kernel⟩
def d_BadDiligent_init : He.DefD := ⟨("BadDiligent", some "__init__"), "__init__", "BadDiligent.__init__", defArgs s_BadDiligent_init, defBody s_BadDiligent_init, defScope s_BadDiligent_init, [], []⟩
abbrev s_checked_hands : Stmt := top 29
abbrev N_checked_hands : List Str := ["hands", "at", "hand"]
abbrev P_checked_hands : List Str := ["hands"]
theorem sc_checked_hands : FnScope N_checked_hands P_checked_hands (defScope s_checked_hands) := ⟨rfl, rfl, rfl, by decide +kernel, rfl, by decide +kernel, by decide +kernel⟩
def d_checked_hands : He.DefD := ⟨("checked_hands", none), "checked_hands", "checked_hands", defArgs s_checked_hands, defBody s_checked_hands, defScope s_checked_hands, [], []⟩
abbrev s_checked_diligent : Stmt := top 30
abbrev N_checked_diligent : List Str := ["row", "many", "kept", "item"]
abbrev P_checked_diligent : List Str := ["row", "many"]
theorem sc_checked_diligent : FnScope N_checked_diligent P_checked_diligent (defScope s_checked_diligent) := ⟨rfl, rfl, rfl, by decide +kernel, rfl, by decide +kernel, by decide +kernel⟩
def d_checked_diligent : He.DefD := ⟨("checked_diligent", none), "checked_diligent", "checked_diligent", defArgs s_checked_diligent, defBody s_checked_diligent, defScope s_checked_diligent, [], []⟩
abbrev s_System_init : Stmt := inClass (top 37) 0
abbrev N_System_init : List Str := ["self", "hands", "diligent", "kept", "chosen", "words", "hand", "word"]
abbrev P_System_init : List Str := ["self", "hands", "diligent"]
theorem sc_System_init : FnScope N_System_init P_System_init (defScope s_System_init) := ⟨rfl, rfl, rfl, by decide +kernel, rfl, by decide +kernel, by decide +kernel⟩
def d_System_init : He.DefD := ⟨("System", some "__init__"), "__init__", "System.__init__", defArgs s_System_init, defBody s_System_init, defScope s_System_init, [.non], []⟩
abbrev s_BadStates_init : Stmt := inClass (top 14) 0
abbrev N_BadStates_init : List Str := ["self", "value"]
abbrev P_BadStates_init : List Str := ["self", "value"]
theorem sc_BadStates_init : FnScope N_BadStates_init P_BadStates_init (defScope s_BadStates_init) := ⟨rfl, rfl, rfl, by decide +kernel, rfl, by decide +kernel, by decide +kernel⟩
def d_BadStates_init : He.DefD := ⟨("BadStates", some "__init__"), "__init__", "BadStates.__init__", defArgs s_BadStates_init, defBody s_BadStates_init, defScope s_BadStates_init, [], []⟩
abbrev s_check_standing : Stmt := top 31
abbrev N_check_standing : List Str := ["system", "states", "at", "hand"]
abbrev P_check_standing : List Str := ["system", "states"]
theorem sc_check_standing : FnScope N_check_standing P_check_standing (defScope s_check_standing) := ⟨rfl, rfl, rfl, by decide +kernel, rfl, by decide +kernel, by decide +kernel⟩
def d_check_standing : He.DefD := ⟨("check_standing", none), "check_standing", "check_standing", defArgs s_check_standing, defBody s_check_standing, defScope s_check_standing, [], []⟩
abbrev s_step_numbers : Stmt := top 32
abbrev N_step_numbers : List Str := ["hand", "state", "word", "at", "step"]
abbrev P_step_numbers : List Str := ["hand", "state", "word"]
theorem sc_step_numbers : FnScope N_step_numbers P_step_numbers (defScope s_step_numbers) := ⟨rfl, rfl, rfl, by decide +kernel, rfl, by decide +kernel, by decide +kernel⟩
def d_step_numbers : He.DefD := ⟨("step_numbers", none), "step_numbers", "step_numbers", defArgs s_step_numbers, defBody s_step_numbers, defScope s_step_numbers, [], []⟩
abbrev s_System_moves : Stmt := inClass (top 37) 4
abbrev N_System_moves : List Str := ["self", "states", "found", "word", "rows", "at", "hand", "numbers", "row", "number"]
abbrev P_System_moves : List Str := ["self", "states"]
theorem sc_System_moves : FnScope N_System_moves P_System_moves (defScope s_System_moves) := ⟨rfl, rfl, rfl, by decide +kernel, rfl, by decide +kernel, by decide +kernel⟩
def d_System_moves : He.DefD := ⟨("System", some "moves"), "moves", "System.moves", defArgs s_System_moves, defBody s_System_moves, defScope s_System_moves, [], []⟩
abbrev s_is_move : Stmt := top 33
abbrev N_is_move : List Str := ["system", "states", "move", "word", "numbers", "at", "hand", "number"]
abbrev P_is_move : List Str := ["system", "states", "move"]
theorem sc_is_move : FnScope N_is_move P_is_move (defScope s_is_move) := ⟨rfl, rfl, rfl, by decide +kernel, rfl, by decide +kernel, by decide +kernel⟩
def d_is_move : He.DefD := ⟨("is_move", none), "is_move", "is_move", defArgs s_is_move, defBody s_is_move, defScope s_is_move, [], []⟩
abbrev s_led_to : Stmt := top 34
abbrev N_led_to : List Str := ["system", "states", "move", "found", "at", "hand", "number"]
abbrev P_led_to : List Str := ["system", "states", "move"]
theorem sc_led_to : FnScope N_led_to P_led_to (defScope s_led_to) := ⟨rfl, rfl, rfl, by decide +kernel, rfl, by decide +kernel, by decide +kernel⟩
def d_led_to : He.DefD := ⟨("led_to", none), "led_to", "led_to", defArgs s_led_to, defBody s_led_to, defScope s_led_to, [], []⟩
abbrev s_System_able : Stmt := inClass (top 37) 6
abbrev N_System_able : List Str := ["self", "states", "free", "word", "holders", "stuck", "at", "hand"]
abbrev P_System_able : List Str := ["self", "states"]
theorem sc_System_able : FnScope N_System_able P_System_able (defScope s_System_able) := ⟨rfl, rfl, rfl, by decide +kernel, rfl, by decide +kernel, by decide +kernel⟩
def d_System_able : He.DefD := ⟨("System", some "able"), "able", "System.able", defArgs s_System_able, defBody s_System_able, defScope s_System_able, [], []⟩
abbrev s_BadMove_init : Stmt := inClass (top 15) 0
abbrev N_BadMove_init : List Str := ["self", "value"]
abbrev P_BadMove_init : List Str := ["self", "value"]
theorem sc_BadMove_init : FnScope N_BadMove_init P_BadMove_init (defScope s_BadMove_init) := ⟨rfl, rfl, rfl, by decide +kernel, rfl, by decide +kernel, by decide +kernel⟩
def d_BadMove_init : He.DefD := ⟨("BadMove", some "__init__"), "__init__", "BadMove.__init__", defArgs s_BadMove_init, defBody s_BadMove_init, defScope s_BadMove_init, [], []⟩
abbrev s_System_behind : Stmt := inClass (top 37) 5
abbrev N_System_behind : List Str := ["self", "states", "move"]
abbrev P_System_behind : List Str := ["self", "states", "move"]
theorem sc_System_behind : FnScope N_System_behind P_System_behind (defScope s_System_behind) := ⟨rfl, rfl, rfl, by decide +kernel, rfl, by decide +kernel, by decide +kernel⟩
def d_System_behind : He.DefD := ⟨("System", some "behind"), "behind", "System.behind", defArgs s_System_behind, defBody s_System_behind, defScope s_System_behind, [], []⟩
abbrev s_System_started_at : Stmt := inClass (top 37) 8
abbrev N_System_started_at : List Str := ["self", "states", "hands", "at", "hand"]
abbrev P_System_started_at : List Str := ["self", "states"]
theorem sc_System_started_at : FnScope N_System_started_at P_System_started_at (defScope s_System_started_at) := ⟨rfl, rfl, rfl, by decide +kernel, rfl, by decide +kernel, by decide +kernel⟩
def d_System_started_at : He.DefD := ⟨("System", some "started_at"), "started_at", "System.started_at", defArgs s_System_started_at, defBody s_System_started_at, defScope s_System_started_at, [], []⟩
abbrev s_law_cell : Stmt := top 39
abbrev N_law_cell : List Str := ["_law_script", "_law_k"]
abbrev P_law_cell : List Str := ["_law_script", "_law_k"]
theorem sc_law_cell : FnScope N_law_cell P_law_cell (defScope s_law_cell) := ⟨rfl, rfl, rfl, by decide +kernel, rfl, by decide +kernel, by decide +kernel⟩
def d_law_cell : He.DefD := ⟨("_law_cell", none), "_law_cell", "_law_cell", defArgs s_law_cell, defBody s_law_cell, defScope s_law_cell, [], []⟩
abbrev s_law_pool : Stmt := top 40
abbrev N_law_pool : List Str := ["_law_cell_here", "_law_rest"]
abbrev P_law_pool : List Str := ["_law_cell_here"]
theorem sc_law_pool : FnScope N_law_pool P_law_pool (defScope s_law_pool) := ⟨rfl, rfl, rfl, by decide +kernel, rfl, by decide +kernel, by decide +kernel⟩
def d_law_pool : He.DefD := ⟨("_law_pool", none), "_law_pool", "_law_pool", defArgs s_law_pool, defBody s_law_pool, defScope s_law_pool, [], []⟩
abbrev s_law_draw : Stmt := top 41
abbrev N_law_draw : List Str := ["_law_pool_here", "_law_many", "_law_digit", "_law_number"]
abbrev P_law_draw : List Str := ["_law_pool_here", "_law_many"]
theorem sc_law_draw : FnScope N_law_draw P_law_draw (defScope s_law_draw) := ⟨rfl, rfl, rfl, by decide +kernel, rfl, by decide +kernel, by decide +kernel⟩
def d_law_draw : He.DefD := ⟨("_law_draw", none), "_law_draw", "_law_draw", defArgs s_law_draw, defBody s_law_draw, defScope s_law_draw, [], []⟩
abbrev s_law_name : Stmt := top 42
abbrev N_law_name : List Str := ["_law_number", "_law_letters", "_law_left"]
abbrev P_law_name : List Str := ["_law_number"]
theorem sc_law_name : FnScope N_law_name P_law_name (defScope s_law_name) := ⟨rfl, rfl, rfl, by decide +kernel, rfl, by decide +kernel, by decide +kernel⟩
def d_law_name : He.DefD := ⟨("_law_name", none), "_law_name", "_law_name", defArgs s_law_name, defBody s_law_name, defScope s_law_name, [], []⟩
abbrev s_law_names : Stmt := top 43
abbrev N_law_names : List Str := ["_law_pool_here", "_law_many", "_law_numbers_here", "_law_k", "_law_number", "_law_again"]
abbrev P_law_names : List Str := ["_law_pool_here", "_law_many"]
theorem sc_law_names : FnScope N_law_names P_law_names (defScope s_law_names) := ⟨rfl, rfl, rfl, by decide +kernel, rfl, by decide +kernel, by decide +kernel⟩
def d_law_names : He.DefD := ⟨("_law_names", none), "_law_names", "_law_names", defArgs s_law_names, defBody s_law_names, defScope s_law_names, [], []⟩
abbrev s_law_same : Stmt := top 51
abbrev N_law_same : List Str := ["_law_told", "_law_due", "_law_k"]
abbrev P_law_same : List Str := ["_law_told", "_law_due"]
theorem sc_law_same : FnScope N_law_same P_law_same (defScope s_law_same) := ⟨rfl, rfl, rfl, by decide +kernel, rfl, by decide +kernel, by decide +kernel⟩
def d_law_same : He.DefD := ⟨("_law_same", none), "_law_same", "_law_same", defArgs s_law_same, defBody s_law_same, defScope s_law_same, [], []⟩
abbrev s_law_steps : Stmt := top 44
abbrev N_law_steps : List Str := ["_law_pool_here", "_law_names_here", "_law_states", "_law_many", "_law_steps_here", "_law_k", "_law_leaves", "_law_word", "_law_step", "_law_one"]
abbrev P_law_steps : List Str := ["_law_pool_here", "_law_names_here", "_law_states", "_law_many"]
theorem sc_law_steps : FnScope N_law_steps P_law_steps (defScope s_law_steps) := ⟨rfl, rfl, rfl, by decide +kernel, rfl, by decide +kernel, by decide +kernel⟩
def d_law_steps : He.DefD := ⟨("_law_steps", none), "_law_steps", "_law_steps", defArgs s_law_steps, defBody s_law_steps, defScope s_law_steps, [], []⟩
abbrev s_law_hand : Stmt := top 45
abbrev N_law_hand : List Str := ["_law_pool_here", "_law_names_here", "_law_most_states", "_law_most_steps", "_law_shape", "_law_first", "_law_gap", "_law_states", "_law_start", "_law_steps_here", "_law_k", "_law_word", "_law_step", "_law_count_here", "_law_one"]
abbrev P_law_hand : List Str := ["_law_pool_here", "_law_names_here", "_law_most_states", "_law_most_steps"]
theorem sc_law_hand : FnScope N_law_hand P_law_hand (defScope s_law_hand) := ⟨rfl, rfl, rfl, by decide +kernel, rfl, by decide +kernel, by decide +kernel⟩
def d_law_hand : He.DefD := ⟨("_law_hand", none), "_law_hand", "_law_hand", defArgs s_law_hand, defBody s_law_hand, defScope s_law_hand, [], []⟩
abbrev s_law_rows : Stmt := top 46
abbrev N_law_rows : List Str := ["_law_script", "_law_most_hands", "_law_most_words", "_law_most_states", "_law_most_steps", "_law_pool_here", "_law_many", "_law_eager", "_law_names_here", "_law_rows_here", "_law_k"]
abbrev P_law_rows : List Str := ["_law_script", "_law_most_hands", "_law_most_words", "_law_most_states", "_law_most_steps"]
theorem sc_law_rows : FnScope N_law_rows P_law_rows (defScope s_law_rows) := ⟨rfl, rfl, rfl, by decide +kernel, rfl, by decide +kernel, by decide +kernel⟩
def d_law_rows : He.DefD := ⟨("_law_rows", none), "_law_rows", "_law_rows", defArgs s_law_rows, defBody s_law_rows, defScope s_law_rows, [], []⟩
abbrev s_law_system : Stmt := top 47
abbrev N_law_system : List Str := ["_law_rows_here", "_law_chosen", "_law_row"]
abbrev P_law_system : List Str := ["_law_rows_here", "_law_chosen"]
theorem sc_law_system : FnScope N_law_system P_law_system (defScope s_law_system) := ⟨rfl, rfl, rfl, by decide +kernel, rfl, by decide +kernel, by decide +kernel⟩
def d_law_system : He.DefD := ⟨("_law_system", none), "_law_system", "_law_system", defArgs s_law_system, defBody s_law_system, defScope s_law_system, [], []⟩
abbrev s_law_words : Stmt := top 48
abbrev N_law_words : List Str := ["_law_rows_here", "_law_words_here", "_law_row", "_law_step"]
abbrev P_law_words : List Str := ["_law_rows_here"]
theorem sc_law_words : FnScope N_law_words P_law_words (defScope s_law_words) := ⟨rfl, rfl, rfl, by decide +kernel, rfl, by decide +kernel, by decide +kernel⟩
def d_law_words : He.DefD := ⟨("_law_words", none), "_law_words", "_law_words", defArgs s_law_words, defBody s_law_words, defScope s_law_words, [], []⟩
abbrev s_law_numbers : Stmt := top 49
abbrev N_law_numbers : List Str := ["_law_row", "_law_state", "_law_word", "_law_step", "_law_k"]
abbrev P_law_numbers : List Str := ["_law_row", "_law_state", "_law_word"]
theorem sc_law_numbers : FnScope N_law_numbers P_law_numbers (defScope s_law_numbers) := ⟨rfl, rfl, rfl, by decide +kernel, rfl, by decide +kernel, by decide +kernel⟩
def d_law_numbers : He.DefD := ⟨("_law_numbers", none), "_law_numbers", "_law_numbers", defArgs s_law_numbers, defBody s_law_numbers, defScope s_law_numbers, [], []⟩
abbrev s_law_behind : Stmt := top 50
abbrev N_law_behind : List Str := ["_law_rows_here", "_law_states", "_law_move", "_law_after", "_law_at"]
abbrev P_law_behind : List Str := ["_law_rows_here", "_law_states", "_law_move"]
theorem sc_law_behind : FnScope N_law_behind P_law_behind (defScope s_law_behind) := ⟨rfl, rfl, rfl, by decide +kernel, rfl, by decide +kernel, by decide +kernel⟩
def d_law_behind : He.DefD := ⟨("_law_behind", none), "_law_behind", "_law_behind", defArgs s_law_behind, defBody s_law_behind, defScope s_law_behind, [], []⟩
abbrev s_k08_reached : Stmt := top 52
abbrev N_k08_reached : List Str := ["_law_row", "_law_found", "_law_again", "_law_step"]
abbrev P_k08_reached : List Str := ["_law_row"]
theorem sc_k08_reached : FnScope N_k08_reached P_k08_reached (defScope s_k08_reached) := ⟨rfl, rfl, rfl, by decide +kernel, rfl, by decide +kernel, by decide +kernel⟩
def d_k08_reached : He.DefD := ⟨("_law_reached", none), "_law_reached", "_law_reached", defArgs s_k08_reached, defBody s_k08_reached, defScope s_k08_reached, [], []⟩
abbrev s_law_standings : Stmt := top 53
abbrev N_law_standings : List Str := ["_law_rows_here", "_law_found", "_law_row", "_law_longer", "_law_states", "_law_state"]
abbrev P_law_standings : List Str := ["_law_rows_here"]
theorem sc_law_standings : FnScope N_law_standings P_law_standings (defScope s_law_standings) := ⟨rfl, rfl, rfl, by decide +kernel, rfl, by decide +kernel, by decide +kernel⟩
def d_law_standings : He.DefD := ⟨("_law_standings", none), "_law_standings", "_law_standings", defArgs s_law_standings, defBody s_law_standings, defScope s_law_standings, [], []⟩
abbrev s_law_count : Stmt := top 54
abbrev N_law_count : List Str := ["_law_rows_here", "_law_states", "_law_word", "_law_count_here", "_law_at"]
abbrev P_law_count : List Str := ["_law_rows_here", "_law_states", "_law_word"]
theorem sc_law_count : FnScope N_law_count P_law_count (defScope s_law_count) := ⟨rfl, rfl, rfl, by decide +kernel, rfl, by decide +kernel, by decide +kernel⟩
def d_law_count : He.DefD := ⟨("_law_count", none), "_law_count", "_law_count", defArgs s_law_count, defBody s_law_count, defScope s_law_count, [], []⟩
abbrev s_law_is_right : Stmt := top 55
abbrev N_law_is_right : List Str := ["_law_rows_here", "_law_states", "_law_move", "_law_at", "_law_number"]
abbrev P_law_is_right : List Str := ["_law_rows_here", "_law_states", "_law_move"]
theorem sc_law_is_right : FnScope N_law_is_right P_law_is_right (defScope s_law_is_right) := ⟨rfl, rfl, rfl, by decide +kernel, rfl, by decide +kernel, by decide +kernel⟩
def d_law_is_right : He.DefD := ⟨("_law_is_right", none), "_law_is_right", "_law_is_right", defArgs s_law_is_right, defBody s_law_is_right, defScope s_law_is_right, [], []⟩
abbrev s_k08_holds : Stmt := top 56
abbrev N_k08_holds : List Str := ["_law_system_here", "_law_rows_here", "_law_states", "_law_told", "_law_moved", "_law_at", "_law_word", "_law_able", "_law_later", "_law_k", "_law_move"]
abbrev P_k08_holds : List Str := ["_law_system_here", "_law_rows_here", "_law_states"]
theorem sc_k08_holds : FnScope N_k08_holds P_k08_holds (defScope s_k08_holds) := ⟨rfl, rfl, rfl, by decide +kernel, rfl, by decide +kernel, by decide +kernel⟩
def d_k08_holds : He.DefD := ⟨("_law_holds", none), "_law_holds", "_law_holds", defArgs s_k08_holds, defBody s_k08_holds, defScope s_k08_holds, [], []⟩
abbrev s_law : Stmt := top 57
abbrev N_law : List Str := ["_law_script", "_law_pair", "_law_system_here", "_law_lazy", "_law_states"]
abbrev P_law : List Str := ["_law_script"]
theorem sc_law : FnScope N_law P_law (defScope s_law) := ⟨rfl, rfl, rfl, by decide +kernel, rfl, by decide +kernel, by decide +kernel⟩
def d_law : He.DefD := ⟨("law", none), "law", "law", defArgs s_law, defBody s_law, defScope s_law, [], []⟩
def fn : List He.DefD := [d_is_integer, d_is_state, d_is_name, d_is_row, d_is_step, d_BadState_init, d_BadSteps_init, d_TooMany_init, d_leaving, d_checked_steps, d_reached_states, d_Hand_init, d_BadHands_init, d_BadDiligent_init, d_checked_hands, d_checked_diligent, d_System_init, d_BadStates_init, d_check_standing, d_step_numbers, d_System_moves, d_is_move, d_led_to, d_System_able, d_BadMove_init, d_System_behind, d_System_started_at, d_law_cell, d_law_pool, d_law_draw, d_law_name, d_law_names, d_law_same, d_law_steps, d_law_hand, d_law_rows, d_law_system, d_law_words, d_law_numbers, d_law_behind, d_k08_reached, d_law_standings, d_law_count, d_law_is_right, d_k08_holds, d_law]
def fa : List He.Fa := [.free "isinstance", .free "int", .free "bool", .glo "is_integer", .glo "is_state", .free "str", .free "len", .str "LETTERS" "abcdefghijklmnopqrstuvwxyz", .glo "is_name", .free "tuple", .free "list", .glo "is_row", .glo "is_step", .glo "BadState", .glo "BadSteps", .glo "TooMany", .glo "leaving", .int "MOST_STEPS" 24, .free "enumerate", .int "MOST_LEAVING" 4, .glo "checked_steps", .free "sorted", .glo "reached_states", .cls "Hand", .noat "Hand" "start", .noat "Hand" "steps", .noat "Hand" "words", .noat "Hand" "states", .int "MOST_WORDS_hands" 8, .int "MOST_STATES" 8, .glo "Hand", .mkr "Hand", .glo "BadHands", .glo "BadDiligent", .cls "System", .noat "System" "hands", .noat "System" "diligent", .noat "System" "words", .noat "System" "start", .int "MOST_HANDS" 4, .glo "checked_hands", .free "range", .glo "checked_diligent", .int "MOST_WORDS_systems" 12, .glo "System", .mkr "System", .glo "BadStates", .glo "check_standing", .glo "step_numbers", .meth "System" "moves", .glo "is_move", .glo "led_to", .free "set", .meth "System" "able", .glo "BadMove", .meth "System" "behind", .meth "System" "started_at", .glo "_law_cell", .glo "_law_pool", .glo "_law_draw", .glo "_law_name", .glo "_law_names", .free "dict", .glo "_law_same", .glo "_law_steps", .glo "_law_hand", .glo "_law_rows", .glo "_law_system", .glo "_law_words", .glo "_law_numbers", .glo "_law_behind", .glo "_law_reached", .glo "_law_standings", .glo "_law_count", .glo "_law_is_right", .glo "_law_holds", .glo "law"]
def ex (K : PySem.W.Frag) : Bool := xB K "BadState" "value" && (xB K "BadSteps" "at" && (xB K "TooMany" "limit" && (xB K "BadHands" "at" && (xB K "BadDiligent" "value" && (isB K "Hand" && (xB K "BadStates" "value" && (xB K "BadMove" "value" && (true))))))))
structure Row (g : Ga) (mg : Str → Option Value) (base : Heap) : Prop where
  c : SaysE fa fn ex g.K
  X : g.K.In base
  G : base.Ns mainGlobals mg
section
variable {g : Ga} {mg : Str → Option Value} {base : Heap}
theorem Row.isinstance (T : Row g mg base) : mg "isinstance" = none := He.free_ok T.X T.G (T.c.d.fact 0 rfl)
theorem Row.int (T : Row g mg base) : mg "int" = none := He.free_ok T.X T.G (T.c.d.fact 1 rfl)
theorem Row.bool (T : Row g mg base) : mg "bool" = none := He.free_ok T.X T.G (T.c.d.fact 2 rfl)
theorem Row.is_integer (T : Row g mg base) : mg "is_integer" = some (.ref (He.ga g.K "is_integer")) := He.glo_ok T.X T.G (T.c.d.fact 3 rfl)
theorem Row.is_state (T : Row g mg base) : mg "is_state" = some (.ref (He.ga g.K "is_state")) := He.glo_ok T.X T.G (T.c.d.fact 4 rfl)
theorem Row.str (T : Row g mg base) : mg "str" = none := He.free_ok T.X T.G (T.c.d.fact 5 rfl)
theorem Row.len (T : Row g mg base) : mg "len" = none := He.free_ok T.X T.G (T.c.d.fact 6 rfl)
theorem Row.LETTERS (T : Row g mg base) : ∃ t, mg "LETTERS" = some (.str "abcdefghijklmnopqrstuvwxyz" t) := He.str_ok T.X T.G (T.c.d.fact 7 rfl)
theorem Row.is_name (T : Row g mg base) : mg "is_name" = some (.ref (He.ga g.K "is_name")) := He.glo_ok T.X T.G (T.c.d.fact 8 rfl)
theorem Row.tuple (T : Row g mg base) : mg "tuple" = none := He.free_ok T.X T.G (T.c.d.fact 9 rfl)
theorem Row.list (T : Row g mg base) : mg "list" = none := He.free_ok T.X T.G (T.c.d.fact 10 rfl)
theorem Row.is_row (T : Row g mg base) : mg "is_row" = some (.ref (He.ga g.K "is_row")) := He.glo_ok T.X T.G (T.c.d.fact 11 rfl)
theorem Row.is_step (T : Row g mg base) : mg "is_step" = some (.ref (He.ga g.K "is_step")) := He.glo_ok T.X T.G (T.c.d.fact 12 rfl)
theorem Row.BadState (T : Row g mg base) : mg "BadState" = some (.ref (He.ga g.K "BadState")) := He.glo_ok T.X T.G (T.c.d.fact 13 rfl)
theorem Row.BadSteps (T : Row g mg base) : mg "BadSteps" = some (.ref (He.ga g.K "BadSteps")) := He.glo_ok T.X T.G (T.c.d.fact 14 rfl)
theorem Row.TooMany (T : Row g mg base) : mg "TooMany" = some (.ref (He.ga g.K "TooMany")) := He.glo_ok T.X T.G (T.c.d.fact 15 rfl)
theorem Row.leaving (T : Row g mg base) : mg "leaving" = some (.ref (He.ga g.K "leaving")) := He.glo_ok T.X T.G (T.c.d.fact 16 rfl)
theorem Row.MOST_STEPS (T : Row g mg base) : ∃ t, mg "MOST_STEPS" = some (.int 24 t) := He.int_ok T.X T.G (T.c.d.fact 17 rfl)
theorem Row.enumerate (T : Row g mg base) : mg "enumerate" = none := He.free_ok T.X T.G (T.c.d.fact 18 rfl)
theorem Row.MOST_LEAVING (T : Row g mg base) : ∃ t, mg "MOST_LEAVING" = some (.int 4 t) := He.int_ok T.X T.G (T.c.d.fact 19 rfl)
theorem Row.checked_steps (T : Row g mg base) : mg "checked_steps" = some (.ref (He.ga g.K "checked_steps")) := He.glo_ok T.X T.G (T.c.d.fact 20 rfl)
theorem Row.sorted (T : Row g mg base) : mg "sorted" = none := He.free_ok T.X T.G (T.c.d.fact 21 rfl)
theorem Row.reached_states (T : Row g mg base) : mg "reached_states" = some (.ref (He.ga g.K "reached_states")) := He.glo_ok T.X T.G (T.c.d.fact 22 rfl)
theorem Row.MOST_WORDS_hands (T : Row g mg base) : ∃ t, mg "MOST_WORDS_hands" = some (.int 8 t) := He.int_ok T.X T.G (T.c.d.fact 28 rfl)
theorem Row.MOST_STATES (T : Row g mg base) : ∃ t, mg "MOST_STATES" = some (.int 8 t) := He.int_ok T.X T.G (T.c.d.fact 29 rfl)
theorem Row.Hand (T : Row g mg base) : mg "Hand" = some (.ref (He.ga g.K "Hand")) := He.glo_ok T.X T.G (T.c.d.fact 30 rfl)
theorem Row.BadHands (T : Row g mg base) : mg "BadHands" = some (.ref (He.ga g.K "BadHands")) := He.glo_ok T.X T.G (T.c.d.fact 32 rfl)
theorem Row.BadDiligent (T : Row g mg base) : mg "BadDiligent" = some (.ref (He.ga g.K "BadDiligent")) := He.glo_ok T.X T.G (T.c.d.fact 33 rfl)
theorem Row.MOST_HANDS (T : Row g mg base) : ∃ t, mg "MOST_HANDS" = some (.int 4 t) := He.int_ok T.X T.G (T.c.d.fact 39 rfl)
theorem Row.checked_hands (T : Row g mg base) : mg "checked_hands" = some (.ref (He.ga g.K "checked_hands")) := He.glo_ok T.X T.G (T.c.d.fact 40 rfl)
theorem Row.range (T : Row g mg base) : mg "range" = none := He.free_ok T.X T.G (T.c.d.fact 41 rfl)
theorem Row.checked_diligent (T : Row g mg base) : mg "checked_diligent" = some (.ref (He.ga g.K "checked_diligent")) := He.glo_ok T.X T.G (T.c.d.fact 42 rfl)
theorem Row.MOST_WORDS_systems (T : Row g mg base) : ∃ t, mg "MOST_WORDS_systems" = some (.int 12 t) := He.int_ok T.X T.G (T.c.d.fact 43 rfl)
theorem Row.System (T : Row g mg base) : mg "System" = some (.ref (He.ga g.K "System")) := He.glo_ok T.X T.G (T.c.d.fact 44 rfl)
theorem Row.BadStates (T : Row g mg base) : mg "BadStates" = some (.ref (He.ga g.K "BadStates")) := He.glo_ok T.X T.G (T.c.d.fact 46 rfl)
theorem Row.check_standing (T : Row g mg base) : mg "check_standing" = some (.ref (He.ga g.K "check_standing")) := He.glo_ok T.X T.G (T.c.d.fact 47 rfl)
theorem Row.step_numbers (T : Row g mg base) : mg "step_numbers" = some (.ref (He.ga g.K "step_numbers")) := He.glo_ok T.X T.G (T.c.d.fact 48 rfl)
theorem Row.is_move (T : Row g mg base) : mg "is_move" = some (.ref (He.ga g.K "is_move")) := He.glo_ok T.X T.G (T.c.d.fact 50 rfl)
theorem Row.led_to (T : Row g mg base) : mg "led_to" = some (.ref (He.ga g.K "led_to")) := He.glo_ok T.X T.G (T.c.d.fact 51 rfl)
theorem Row.set (T : Row g mg base) : mg "set" = none := He.free_ok T.X T.G (T.c.d.fact 52 rfl)
theorem Row.BadMove (T : Row g mg base) : mg "BadMove" = some (.ref (He.ga g.K "BadMove")) := He.glo_ok T.X T.G (T.c.d.fact 54 rfl)
theorem Row._law_cell (T : Row g mg base) : mg "_law_cell" = some (.ref (He.ga g.K "_law_cell")) := He.glo_ok T.X T.G (T.c.d.fact 57 rfl)
theorem Row._law_pool (T : Row g mg base) : mg "_law_pool" = some (.ref (He.ga g.K "_law_pool")) := He.glo_ok T.X T.G (T.c.d.fact 58 rfl)
theorem Row._law_draw (T : Row g mg base) : mg "_law_draw" = some (.ref (He.ga g.K "_law_draw")) := He.glo_ok T.X T.G (T.c.d.fact 59 rfl)
theorem Row._law_name (T : Row g mg base) : mg "_law_name" = some (.ref (He.ga g.K "_law_name")) := He.glo_ok T.X T.G (T.c.d.fact 60 rfl)
theorem Row._law_names (T : Row g mg base) : mg "_law_names" = some (.ref (He.ga g.K "_law_names")) := He.glo_ok T.X T.G (T.c.d.fact 61 rfl)
theorem Row.dict (T : Row g mg base) : mg "dict" = none := He.free_ok T.X T.G (T.c.d.fact 62 rfl)
theorem Row._law_same (T : Row g mg base) : mg "_law_same" = some (.ref (He.ga g.K "_law_same")) := He.glo_ok T.X T.G (T.c.d.fact 63 rfl)
theorem Row._law_steps (T : Row g mg base) : mg "_law_steps" = some (.ref (He.ga g.K "_law_steps")) := He.glo_ok T.X T.G (T.c.d.fact 64 rfl)
theorem Row._law_hand (T : Row g mg base) : mg "_law_hand" = some (.ref (He.ga g.K "_law_hand")) := He.glo_ok T.X T.G (T.c.d.fact 65 rfl)
theorem Row._law_rows (T : Row g mg base) : mg "_law_rows" = some (.ref (He.ga g.K "_law_rows")) := He.glo_ok T.X T.G (T.c.d.fact 66 rfl)
theorem Row._law_system (T : Row g mg base) : mg "_law_system" = some (.ref (He.ga g.K "_law_system")) := He.glo_ok T.X T.G (T.c.d.fact 67 rfl)
theorem Row._law_words (T : Row g mg base) : mg "_law_words" = some (.ref (He.ga g.K "_law_words")) := He.glo_ok T.X T.G (T.c.d.fact 68 rfl)
theorem Row._law_numbers (T : Row g mg base) : mg "_law_numbers" = some (.ref (He.ga g.K "_law_numbers")) := He.glo_ok T.X T.G (T.c.d.fact 69 rfl)
theorem Row._law_behind (T : Row g mg base) : mg "_law_behind" = some (.ref (He.ga g.K "_law_behind")) := He.glo_ok T.X T.G (T.c.d.fact 70 rfl)
theorem Row._law_reached (T : Row g mg base) : mg "_law_reached" = some (.ref (He.ga g.K "_law_reached")) := He.glo_ok T.X T.G (T.c.d.fact 71 rfl)
theorem Row._law_standings (T : Row g mg base) : mg "_law_standings" = some (.ref (He.ga g.K "_law_standings")) := He.glo_ok T.X T.G (T.c.d.fact 72 rfl)
theorem Row._law_count (T : Row g mg base) : mg "_law_count" = some (.ref (He.ga g.K "_law_count")) := He.glo_ok T.X T.G (T.c.d.fact 73 rfl)
theorem Row._law_is_right (T : Row g mg base) : mg "_law_is_right" = some (.ref (He.ga g.K "_law_is_right")) := He.glo_ok T.X T.G (T.c.d.fact 74 rfl)
theorem Row._law_holds (T : Row g mg base) : mg "_law_holds" = some (.ref (He.ga g.K "_law_holds")) := He.glo_ok T.X T.G (T.c.d.fact 75 rfl)
theorem Row.law (T : Row g mg base) : mg "law" = some (.ref (He.ga g.K "law")) := He.glo_ok T.X T.G (T.c.d.fact 76 rfl)
theorem Row.x_BadState (T : Row g mg base) : xB g.K "BadState" "value" = true := by
  have h := T.c.x
  unfold ex at h
  exact And.left (Bool.and_eq_true_iff.mp (h))
theorem Row.x_BadSteps (T : Row g mg base) : xB g.K "BadSteps" "at" = true := by
  have h := T.c.x
  unfold ex at h
  exact And.left (Bool.and_eq_true_iff.mp (And.right (Bool.and_eq_true_iff.mp (h))))
theorem Row.x_TooMany (T : Row g mg base) : xB g.K "TooMany" "limit" = true := by
  have h := T.c.x
  unfold ex at h
  exact And.left (Bool.and_eq_true_iff.mp (And.right (Bool.and_eq_true_iff.mp (And.right (Bool.and_eq_true_iff.mp (h))))))
theorem Row.x_BadHands (T : Row g mg base) : xB g.K "BadHands" "at" = true := by
  have h := T.c.x
  unfold ex at h
  exact And.left (Bool.and_eq_true_iff.mp (And.right (Bool.and_eq_true_iff.mp (And.right (Bool.and_eq_true_iff.mp (And.right (Bool.and_eq_true_iff.mp (h))))))))
theorem Row.x_BadDiligent (T : Row g mg base) : xB g.K "BadDiligent" "value" = true := by
  have h := T.c.x
  unfold ex at h
  exact And.left (Bool.and_eq_true_iff.mp (And.right (Bool.and_eq_true_iff.mp (And.right (Bool.and_eq_true_iff.mp (And.right (Bool.and_eq_true_iff.mp (And.right (Bool.and_eq_true_iff.mp (h))))))))))
theorem Row.is_Hand (T : Row g mg base) : isB g.K "Hand" = true := by
  have h := T.c.x
  unfold ex at h
  exact And.left (Bool.and_eq_true_iff.mp (And.right (Bool.and_eq_true_iff.mp (And.right (Bool.and_eq_true_iff.mp (And.right (Bool.and_eq_true_iff.mp (And.right (Bool.and_eq_true_iff.mp (And.right (Bool.and_eq_true_iff.mp (h))))))))))))
theorem Row.x_BadStates (T : Row g mg base) : xB g.K "BadStates" "value" = true := by
  have h := T.c.x
  unfold ex at h
  exact And.left (Bool.and_eq_true_iff.mp (And.right (Bool.and_eq_true_iff.mp (And.right (Bool.and_eq_true_iff.mp (And.right (Bool.and_eq_true_iff.mp (And.right (Bool.and_eq_true_iff.mp (And.right (Bool.and_eq_true_iff.mp (And.right (Bool.and_eq_true_iff.mp (h))))))))))))))
theorem Row.x_BadMove (T : Row g mg base) : xB g.K "BadMove" "value" = true := by
  have h := T.c.x
  unfold ex at h
  exact And.left (Bool.and_eq_true_iff.mp (And.right (Bool.and_eq_true_iff.mp (And.right (Bool.and_eq_true_iff.mp (And.right (Bool.and_eq_true_iff.mp (And.right (Bool.and_eq_true_iff.mp (And.right (Bool.and_eq_true_iff.mp (And.right (Bool.and_eq_true_iff.mp (And.right (Bool.and_eq_true_iff.mp (h))))))))))))))))
theorem Row.hand (T : Row g mg base) : HandC g := ⟨He.cls_ok (T.c.d.fact 23 rfl), He.noat_ok (T.c.d.fact 24 rfl), He.noat_ok (T.c.d.fact 25 rfl), He.noat_ok (T.c.d.fact 26 rfl), He.noat_ok (T.c.d.fact 27 rfl)⟩
theorem Row.sys (T : Row g mg base) : SysC g := ⟨(isB_ok (He.cls_ok (T.c.d.fact 23 rfl)) T.is_Hand).1, He.cls_ok (T.c.d.fact 34 rfl), He.noat_ok (T.c.d.fact 35 rfl), He.noat_ok (T.c.d.fact 36 rfl), He.noat_ok (T.c.d.fact 37 rfl), He.noat_ok (T.c.d.fact 38 rfl), (isB_ok (He.cls_ok (T.c.d.fact 23 rfl)) T.is_Hand).2⟩
theorem K_C_is_integer (T : Row g mg base) : Cal g mg base 1 "is_integer" P_is_integer [] (sp_is_integer g) := by
  obtain ⟨fd, F⟩ := T.c.d.def_ 0 (d := d_is_integer) rfl
  exact ⟨_, fd, [], F.ok sc_is_integer (fun vs H Q E h => by obtain ⟨_, _, rfl, _⟩ := h; rfl) (fun cdv A outer s H vs Q E hr h => ⟨t_is_integer g, (pss_one (ps_ret (pe_and (pe_callB call_isi (by rfl) T.isinstance (by decide +kernel) (pa_cons (pv 0) (pa_cons (pe_ty T.int) pa_nil))) (pe_one (pe_not (pe_callB call_isi (by rfl) T.isinstance (by decide +kernel) (pa_cons (pv 0) (pa_cons (pe_ty T.bool) pa_nil)))))))), pure_is_integer  h⟩), T.is_integer, F.kp, (FunD.bindsN F fun _ _ _ _ _ _ us hl => match us, hl with | [_], _ => rfl), .nil⟩
theorem K_C_is_state (T : Row g mg base) : Cal g mg base 2 "is_state" P_is_state [] (sp_is_state g) := by
  obtain ⟨fd, F⟩ := T.c.d.def_ 1 (d := d_is_state) rfl
  have C_is_integer := K_C_is_integer T
  exact ⟨_, fd, [], F.ok sc_is_state (fun vs H Q E h => by obtain ⟨_, _, rfl, _⟩ := h; rfl) (fun cdv A outer s H vs Q E hr h => ⟨t_is_state g, (pss_one (ps_ret (pe_and (pe_cal C_is_integer (hr.mono (by decide)) (by rfl) (pa_cons (pv 0) pa_nil)) (pe_one (pe_chain o_le o_le pe_int (pv 0) pe_int))))), pure_is_state  h⟩), T.is_state, F.kp, (FunD.bindsN F fun _ _ _ _ _ _ us hl => match us, hl with | [_], _ => rfl), .nil⟩
theorem K_C_is_name (T : Row g mg base) : Cal g mg base 1 "is_name" P_is_name [] (sp_is_name g) := by
  obtain ⟨fd, F⟩ := T.c.d.def_ 2 (d := d_is_name) rfl
  exact ⟨_, fd, [], F.ok sc_is_name (fun vs H Q E h => by obtain ⟨_, _, rfl, _⟩ := h; rfl) (fun cdv A outer s H vs Q E hr h => ⟨t_is_name g, (pss_cons (ps_if (PW.pt (pw_or (pt_not (pt_val (pe_callB call_isi (by rfl) T.isinstance (by decide +kernel) (pa_cons (pv 0) (pa_cons (pe_ty T.str) pa_nil))))) (pw_or1 (pt_not (pt_chain o_le o_le pe_int (pe_callB call_len_str (by rfl) T.len PySem.boot_len (pa_cons (pv 0) pa_nil)) pe_int))))) (pss_one (ps_ret pe_bl)) pss_nil) (pss_cons (ps_for (passes_of rfl) rfl (pi_str (pv 0)) (pg_name (i := 1) sc_is_name.nd rfl (.inl rfl)) (pss_one (ps_if (pt_cmpR o_nins (pv 1) (pe_gS T.LETTERS) (by rfl)) (pss_one (ps_ret pe_bl)) pss_nil))) (pss_one (ps_ret pe_bl)))), pure_is_name  h⟩), T.is_name, F.kp, (FunD.bindsN F fun _ _ _ _ _ _ us hl => match us, hl with | [_], _ => rfl), .nil⟩
theorem K_C_is_row (T : Row g mg base) : Cal g mg base 1 "is_row" P_is_row [] (sp_is_row g) := by
  obtain ⟨fd, F⟩ := T.c.d.def_ 3 (d := d_is_row) rfl
  exact ⟨_, fd, [], F.ok sc_is_row (fun vs H Q E h => by obtain ⟨_, _, rfl, _⟩ := h; rfl) (fun cdv A outer s H vs Q E hr h => ⟨t_is_row g, (pss_one (ps_ret (pe_callB call_isiT (by rfl) T.isinstance (by decide +kernel) (pa_cons (pv 0) (pa_cons (pe_tup (pa_cons (pe_ty T.list) (pa_cons (pe_ty T.tuple) pa_nil))) pa_nil))))), pure_is_row  h⟩), T.is_row, F.kp, (FunD.bindsN F fun _ _ _ _ _ _ us hl => match us, hl with | [_], _ => rfl), .nil⟩
theorem K_C_is_step (T : Row g mg base) : Cal g mg base 3 "is_step" P_is_step [] (sp_is_step g) := by
  obtain ⟨fd, F⟩ := T.c.d.def_ 4 (d := d_is_step) rfl
  have C_is_state := K_C_is_state T
  have C_is_name := K_C_is_name T
  exact ⟨_, fd, [], F.ok sc_is_step (fun vs H Q E h => by obtain ⟨_, _, rfl, _⟩ := h; rfl) (fun cdv A outer s H vs Q E hr h => ⟨t_is_step g, (pss_cons (ps_if (PW.pt (pw_or (pt_not (pt_val (pe_callB call_isi (by rfl) T.isinstance (by decide +kernel) (pa_cons (pv 0) (pa_cons (pe_ty T.tuple) pa_nil))))) (pw_or1 (pt_cmpR o_ne (pe_callB call_len_seq (by rfl) T.len PySem.boot_len (pa_cons (pv 0) pa_nil)) pe_int (nomark _))))) (pss_one (ps_ret pe_bl)) pss_nil) (pss_one (ps_ret (pe_and (pe_cal C_is_state (hr.mono (by decide)) (by rfl) (pa_cons (pe_ix ix_tup (pv 0) pe_int (fun _ _ => rfl)) pa_nil)) (pe_and (pe_cal C_is_name (hr.mono (by decide)) (by rfl) (pa_cons (pe_ix ix_tup (pv 0) pe_int (fun _ _ => rfl)) pa_nil)) (pe_one (pe_cal C_is_state (hr.mono (by decide)) (by rfl) (pa_cons (pe_ix ix_tup (pv 0) pe_int (fun _ _ => rfl)) pa_nil)))))))), pure_is_step  h⟩), T.is_step, F.kp, (FunD.bindsN F fun _ _ _ _ _ _ us hl => match us, hl with | [_], _ => rfl), .nil⟩
theorem K_X_BadState (T : Row g mg base) : XCl g mg base 1 "BadState" "value" := by
  obtain ⟨fd, F⟩ := T.c.d.def_ 5 (d := d_BadState_init) rfl
  obtain ⟨h1, h2, h3, h4, h5⟩ := xB_ok (T.x_BadState)
  exact ⟨h1, h2, h3, T.BadState, _, fd, P_BadState_init, h4, h5, F.ok sc_BadState_init (fun _ _ _ _ h => len_exc h) (fun cdv A outer s H vs Q E hr h => ⟨t_exc g.K "value", pss_one (ps_ost (pv 0) (pv 1)), pure_exc h1 h3 h⟩), (FunD.bindsN F fun _ _ _ _ _ _ us hl => match us, hl with | [_, _], _ => rfl)⟩
theorem K_X_BadSteps (T : Row g mg base) : XCl g mg base 1 "BadSteps" "at" := by
  obtain ⟨fd, F⟩ := T.c.d.def_ 6 (d := d_BadSteps_init) rfl
  obtain ⟨h1, h2, h3, h4, h5⟩ := xB_ok (T.x_BadSteps)
  exact ⟨h1, h2, h3, T.BadSteps, _, fd, P_BadSteps_init, h4, h5, F.ok sc_BadSteps_init (fun _ _ _ _ h => len_exc h) (fun cdv A outer s H vs Q E hr h => ⟨t_exc g.K "at", pss_one (ps_ost (pv 0) (pv 1)), pure_exc h1 h3 h⟩), (FunD.bindsN F fun _ _ _ _ _ _ us hl => match us, hl with | [_, _], _ => rfl)⟩
theorem K_X_TooMany (T : Row g mg base) : XCl g mg base 1 "TooMany" "limit" := by
  obtain ⟨fd, F⟩ := T.c.d.def_ 7 (d := d_TooMany_init) rfl
  obtain ⟨h1, h2, h3, h4, h5⟩ := xB_ok (T.x_TooMany)
  exact ⟨h1, h2, h3, T.TooMany, _, fd, P_TooMany_init, h4, h5, F.ok sc_TooMany_init (fun _ _ _ _ h => len_exc h) (fun cdv A outer s H vs Q E hr h => ⟨t_exc g.K "limit", pss_one (ps_ost (pv 0) (pv 1)), pure_exc h1 h3 h⟩), (FunD.bindsN F fun _ _ _ _ _ _ us hl => match us, hl with | [_, _], _ => rfl)⟩
theorem K_C_leaving (T : Row g mg base) : Cal g mg base 1 "leaving" P_leaving [] (sp_leaving g) := by
  obtain ⟨fd, F⟩ := T.c.d.def_ 8 (d := d_leaving) rfl
  exact ⟨_, fd, [], F.ok sc_leaving (fun vs H Q E h => by obtain ⟨_, _, _, _, rfl, _⟩ := h; rfl) (fun cdv A outer s H vs Q E hr h => ⟨t_leaving g, (pss_one (ps_ret (pe_callB call_len_seq (by rfl) T.len PySem.boot_len (pa_cons (pe_lc (own := [("step", 2)]) (by rfl) sc_leaving.nd (pi_list (pv 0)) (blkOk_by (own := [("step", 2)]) (N := N_leaving) (sc := defScope s_leaving) (by decide +kernel)) (fun _ _ _ _ _ => (pg_name (i := 2) sc_leaving.nd rfl (.inl rfl))) (fun _ _ _ _ _ => (pts_one (pt_cmpR o_eq (pe_ix ix_tup (pv 2) pe_int (fun _ _ => rfl)) (pv 1) (nomark _)))) (fun _ _ _ _ _ => (pv 2))) pa_nil)))), pure_leaving  h⟩), T.leaving, F.kp, (FunD.bindsN F fun _ _ _ _ _ _ us hl => match us, hl with | [_, _], _ => rfl), .nil⟩
theorem K_C_checked_steps (T : Row g mg base) : Cal g mg base 4 "checked_steps" P_checked_steps [] (sp_checked_steps g) := by
  obtain ⟨fd, F⟩ := T.c.d.def_ 9 (d := d_checked_steps) rfl
  have C_is_row := K_C_is_row T
  have X_BadSteps := K_X_BadSteps T
  have C_is_step := K_C_is_step T
  have C_leaving := K_C_leaving T
  exact ⟨_, fd, [], F.ok sc_checked_steps (fun vs H Q E h => by obtain ⟨_, rfl, _⟩ := h; rfl) (fun cdv A outer s H vs Q E hr h => ⟨t_checked_steps g E, (pss_cons (ps_if (PW.pt (pw_or (pt_not (pt_val (pe_cal C_is_row (hr.mono (by decide)) (by rfl) (pa_cons (pv 0) pa_nil)))) (pw_or1 (pt_not (pt_chain o_le o_le pe_int (pe_callB call_len (by rfl) T.len PySem.boot_len (pa_cons (pv 0) pa_nil)) (pe_gI (i := 24) T.MOST_STEPS)))))) (pss_one (ps_raise rfl (takes_of rfl rfl rfl rfl) (pmk_X X_BadSteps (hr.mono (by decide)) (by rfl) (pa_cons (pe_un o_neg pe_int) pa_nil)))) pss_nil) (pss_cons (ps_set (i := 1) sc_checked_steps.nd rfl (.inl rfl) (pe_lst pa_nil)) (pss_cons (ps_for (passes_of rfl) rfl (pi_enumS (by rfl) T.enumerate (pa_cons (pv 0) pa_nil)) (pg_tup (by rfl) (pgs_cons (pg_name (i := 2) sc_checked_steps.nd rfl (.inl rfl)) (pgs_cons (pg_name (i := 3) sc_checked_steps.nd rfl (.inl rfl)) pgs_nil))) (pss_cons (ps_if (PW.pt (pw_or (pt_not (pt_val (pe_cal C_is_step (hr.mono (by decide)) (by rfl) (pa_cons (pv 3) pa_nil)))) (pw_or1 (pt_cmpR (o_inD hr) (pv 3) (pv 1) (by rfl))))) (pss_one (ps_raise rfl (takes_of rfl rfl rfl rfl) (pmk_X X_BadSteps (hr.mono (by decide)) (by rfl) (pa_cons (pv 2) pa_nil)))) pss_nil) (pss_cons (ps_if (pt_cmpR o_eq (pe_cal C_leaving (hr.mono (by decide)) (by rfl) (pa_cons (pv 1) (pa_cons (pe_ix ix_tup (pv 3) pe_int (fun _ _ => rfl)) pa_nil))) (pe_gI (i := 4) T.MOST_LEAVING) (nomark _)) (pss_one (ps_raise rfl (takes_of rfl rfl rfl rfl) (pmk_X X_BadSteps (hr.mono (by decide)) (by rfl) (pa_cons (pv 2) pa_nil)))) pss_nil) (pss_one (ps_expr (pe_bm PySem.F.plainAttrs_list PySem.F.slot_list_append PySem.F.type_list_append mt_append (pv 1) (pa_cons (pv 3) pa_nil))))))) (pss_one (ps_ret (pe_callTy call_tuple_of (by rfl) T.tuple (by decide +kernel) (pa_cons (pv 1) pa_nil))))))), pure_checked_steps  h⟩), T.checked_steps, F.kp, (FunD.bindsN F fun _ _ _ _ _ _ us hl => match us, hl with | [_], _ => rfl), .nil⟩
theorem K_C_reached_states (T : Row g mg base) : Cal g mg base 1 "reached_states" P_reached_states [] (sp_reached_states g) := by
  obtain ⟨fd, F⟩ := T.c.d.def_ 10 (d := d_reached_states) rfl
  exact ⟨_, fd, [], F.ok sc_reached_states (fun vs H Q E h => by obtain ⟨_, _, _, _, rfl, _⟩ := h; rfl) (fun cdv A outer s H vs Q E hr h => ⟨t_reached_states g, (pss_cons (ps_set (i := 2) sc_reached_states.nd rfl (.inl rfl) (pe_lst (pa_cons (pv 0) pa_nil))) (pss_cons (ps_set (i := 3) sc_reached_states.nd rfl (.inl rfl) pe_int) (pss_cons (ps_while (passes_of rfl) (pt_cmpR o_lt (pv 3) (pe_callB call_len_seq (by rfl) T.len PySem.boot_len (pa_cons (pv 2) pa_nil)) (nomark _)) (pss_cons (ps_for (passes_of rfl) rfl (pi_tup (pv 1)) (pg_name (i := 4) sc_reached_states.nd rfl (.inl rfl)) (pss_one (ps_if (PW.pt (pw_and (pt_cmpR o_eq (pe_ix ix_tup (pv 4) pe_int (fun _ _ => rfl)) (pe_ix ix_list (pv 2) (pv 3) (fun _ _ => rfl)) (nomark _)) (pw_and1 (pt_cmpR o_nin (pe_ix ix_tup (pv 4) pe_int (fun _ _ => rfl)) (pv 2) (by rfl))))) (pss_one (ps_expr (pe_bm PySem.F.plainAttrs_list PySem.F.slot_list_append PySem.F.type_list_append mt_append (pv 2) (pa_cons (pe_ix ix_tup (pv 4) pe_int (fun _ _ => rfl)) pa_nil)))) pss_nil))) (pss_one (ps_aug (i := 3) sc_reached_states.nd rfl (.inl rfl) pe_int ip_add)))) (pss_one (ps_ret (pe_callTy call_tuple_of (by rfl) T.tuple (by decide +kernel) (pa_cons (pe_callB cr_sortedI (by rfl) T.sorted (by decide +kernel) (pa_cons (pv 2) pa_nil)) pa_nil))))))), pure_reached_states  h⟩), T.reached_states, F.kp, (FunD.bindsN F fun _ _ _ _ _ _ us hl => match us, hl with | [_, _], _ => rfl), .nil⟩
theorem K_M_Hand (T : Row g mg base) : CalM g mg base 5 "Hand" P_Hand_init [] (sp_Hand_init g) := by
  obtain ⟨fd, F⟩ := T.c.d.def_ 11 (d := d_Hand_init) rfl
  have C_is_state := K_C_is_state T
  have X_BadState := K_X_BadState T
  have C_checked_steps := K_C_checked_steps T
  have X_TooMany := K_X_TooMany T
  have C_reached_states := K_C_reached_states T
  exact ⟨_, fd, [], He.mkr_ok (T.c.d.fact 31 rfl), F.ok sc_Hand_init (fun vs H Q E h => by obtain ⟨_, _, _, _, rfl, _⟩ := h; rfl) (fun cdv A outer s H vs Q E hr h => ⟨t_Hand_init g E, (pss_cons (ps_if (pt_not (pt_val (pe_cal C_is_state (hr.mono (by decide)) (by rfl) (pa_cons (pv 1) pa_nil)))) (pss_one (ps_raise rfl (takes_of rfl rfl rfl rfl) (pmk_X X_BadState (hr.mono (by decide)) (by rfl) (pa_cons (pv 1) pa_nil)))) pss_nil) (pss_cons (ps_set (i := 3) sc_Hand_init.nd rfl (.inl rfl) (pe_calE C_checked_steps (hr.mono (by decide)) (by rfl) (passes_call (takes_of rfl rfl rfl rfl) fun _ _ _ _ h => h) (pa_cons (pv 2) pa_nil))) (pss_cons (ps_set (i := 4) sc_Hand_init.nd rfl (.inl rfl) (pe_callTy call_tuple_of (by rfl) T.tuple (by decide +kernel) (pa_cons (pe_callB (cr_sortX rfl) (by rfl) T.sorted (by decide +kernel) (pa_cons (pe_scT (own := [("step", 6)]) (by rfl) sc_Hand_init.nd (pi_tup (pv 3)) (blkOk_by (own := [("step", 6)]) (N := N_Hand_init) (sc := defScope s_Hand_init) (by decide +kernel)) (fun _ _ _ _ _ => (pg_name (i := 6) sc_Hand_init.nd rfl (.inl rfl))) (fun _ _ _ _ _ => pts_nil) (fun _ _ _ _ _ => (pe_ix ix_tup (pv 6) pe_int (fun _ _ => rfl)))) pa_nil)) pa_nil))) (pss_cons (ps_if (pt_cmpR o_gt (pe_callB call_len_seq (by rfl) T.len PySem.boot_len (pa_cons (pv 4) pa_nil)) (pe_gI (i := 8) T.MOST_WORDS_hands) (nomark _)) (pss_one (ps_raise rfl (takes_of rfl rfl rfl rfl) (pmk_X X_TooMany (hr.mono (by decide)) (by rfl) (pa_cons (pe_gI (i := 8) T.MOST_WORDS_hands) pa_nil)))) pss_nil) (pss_cons (ps_set (i := 5) sc_Hand_init.nd rfl (.inl rfl) (pe_cal C_reached_states (hr.mono (by decide)) (by rfl) (pa_cons (pv 1) (pa_cons (pv 3) pa_nil)))) (pss_cons (ps_if (pt_cmpR o_gt (pe_callB call_len_seq (by rfl) T.len PySem.boot_len (pa_cons (pv 5) pa_nil)) (pe_gI (i := 8) T.MOST_STATES) (nomark _)) (pss_one (ps_raise rfl (takes_of rfl rfl rfl rfl) (pmk_X X_TooMany (hr.mono (by decide)) (by rfl) (pa_cons (pe_gI (i := 8) T.MOST_STATES) pa_nil)))) pss_nil) (pss_cons (ps_fld (pv 0) (pv 1) rfl) (pss_cons (ps_fld (pv 0) (pv 3) rfl) (pss_cons (ps_fld (pv 0) (pv 4) rfl) (pss_one (ps_fld (pv 0) (pv 5) rfl))))))))))), pure_Hand_init T.hand h⟩), T.Hand, (FunD.bindsN F fun _ _ _ _ _ _ us hl => match us, hl with | [_, _, _], _ => rfl), .nil⟩
theorem K_X_BadHands (T : Row g mg base) : XCl g mg base 1 "BadHands" "at" := by
  obtain ⟨fd, F⟩ := T.c.d.def_ 12 (d := d_BadHands_init) rfl
  obtain ⟨h1, h2, h3, h4, h5⟩ := xB_ok (T.x_BadHands)
  exact ⟨h1, h2, h3, T.BadHands, _, fd, P_BadHands_init, h4, h5, F.ok sc_BadHands_init (fun _ _ _ _ h => len_exc h) (fun cdv A outer s H vs Q E hr h => ⟨t_exc g.K "at", pss_one (ps_ost (pv 0) (pv 1)), pure_exc h1 h3 h⟩), (FunD.bindsN F fun _ _ _ _ _ _ us hl => match us, hl with | [_, _], _ => rfl)⟩
theorem K_X_BadDiligent (T : Row g mg base) : XCl g mg base 1 "BadDiligent" "value" := by
  obtain ⟨fd, F⟩ := T.c.d.def_ 13 (d := d_BadDiligent_init) rfl
  obtain ⟨h1, h2, h3, h4, h5⟩ := xB_ok (T.x_BadDiligent)
  exact ⟨h1, h2, h3, T.BadDiligent, _, fd, P_BadDiligent_init, h4, h5, F.ok sc_BadDiligent_init (fun _ _ _ _ h => len_exc h) (fun cdv A outer s H vs Q E hr h => ⟨t_exc g.K "value", pss_one (ps_ost (pv 0) (pv 1)), pure_exc h1 h3 h⟩), (FunD.bindsN F fun _ _ _ _ _ _ us hl => match us, hl with | [_, _], _ => rfl)⟩
theorem K_C_checked_hands (T : Row g mg base) : Cal g mg base 3 "checked_hands" P_checked_hands [] (sp_checked_hands g) := by
  obtain ⟨fd, F⟩ := T.c.d.def_ 14 (d := d_checked_hands) rfl
  have C_is_row := K_C_is_row T
  have X_BadHands := K_X_BadHands T
  exact ⟨_, fd, [], F.ok sc_checked_hands (fun vs H Q E h => by obtain ⟨_, rfl, _⟩ := h; rfl) (fun cdv A outer s H vs Q E hr h => ⟨t_checked_hands g E, (pss_cons (ps_if (PW.pt (pw_or (pt_not (pt_val (pe_cal C_is_row (hr.mono (by decide)) (by rfl) (pa_cons (pv 0) pa_nil)))) (pw_or1 (pt_not (pt_chain o_le o_le pe_int (pe_callB call_len (by rfl) T.len PySem.boot_len (pa_cons (pv 0) pa_nil)) (pe_gI (i := 4) T.MOST_HANDS)))))) (pss_one (ps_raise rfl (takes_of rfl rfl rfl rfl) (pmk_X X_BadHands (hr.mono (by decide)) (by rfl) (pa_cons (pe_un o_neg pe_int) pa_nil)))) pss_nil) (pss_cons (ps_for (passes_of rfl) rfl (pi_enumS (by rfl) T.enumerate (pa_cons (pv 0) pa_nil)) (pg_tup (by rfl) (pgs_cons (pg_name (i := 1) sc_checked_hands.nd rfl (.inl rfl)) (pgs_cons (pg_name (i := 2) sc_checked_hands.nd rfl (.inl rfl)) pgs_nil))) (pss_one (ps_if (pt_not (pt_val (pe_callB call_isi (by rfl) T.isinstance (by decide +kernel) (pa_cons (pv 2) (pa_cons (pe_cl T.Hand) pa_nil))))) (pss_one (ps_raise rfl (takes_of rfl rfl rfl rfl) (pmk_X X_BadHands (hr.mono (by decide)) (by rfl) (pa_cons (pv 1) pa_nil)))) pss_nil))) (pss_one (ps_ret (pe_callTy call_tuple_of (by rfl) T.tuple (by decide +kernel) (pa_cons (pv 0) pa_nil)))))), pure_checked_hands rfl h⟩), T.checked_hands, F.kp, (FunD.bindsN F fun _ _ _ _ _ _ us hl => match us, hl with | [_], _ => rfl), .nil⟩
theorem K_C_checked_diligent (T : Row g mg base) : Cal g mg base 3 "checked_diligent" P_checked_diligent [] (sp_checked_diligent g) := by
  obtain ⟨fd, F⟩ := T.c.d.def_ 15 (d := d_checked_diligent) rfl
  have C_is_row := K_C_is_row T
  have X_BadDiligent := K_X_BadDiligent T
  have C_is_integer := K_C_is_integer T
  exact ⟨_, fd, [], F.ok sc_checked_diligent (fun vs H Q E h => by obtain ⟨_, _, rfl, _⟩ := h; rfl) (fun cdv A outer s H vs Q E hr h => ⟨t_checked_diligent g E, (pss_cons (ps_if (pt_cmpR o_isN (pv 0) pe_non (nomark _)) (pss_one (ps_ret (pe_tupRg (by rfl) (by rfl) T.tuple (prg_1 (by rfl) T.range (pv 1))))) pss_nil) (pss_cons (ps_if (pt_not (pt_val (pe_cal C_is_row (hr.mono (by decide)) (by rfl) (pa_cons (pv 0) pa_nil)))) (pss_one (ps_raise rfl (takes_of rfl rfl rfl rfl) (pmk_X X_BadDiligent (hr.mono (by decide)) (by rfl) (pa_cons (pv 0) pa_nil)))) pss_nil) (pss_cons (ps_set (i := 2) sc_checked_diligent.nd rfl (.inl rfl) (pe_lst pa_nil)) (pss_cons (ps_for (passes_of rfl) rfl (pi_seq (pv 0)) (pg_name (i := 3) sc_checked_diligent.nd rfl (.inl rfl)) (pss_cons (ps_if (PW.pt (pw_or (pt_not (pt_val (pe_cal C_is_integer (hr.mono (by decide)) (by rfl) (pa_cons (pv 3) pa_nil)))) (pw_or (pt_not (pt_chain o_le o_lt pe_int (pv 3) (pv 1))) (pw_or1 (pt_cmpR o_in (pv 3) (pv 2) (by rfl)))))) (pss_one (ps_raise rfl (takes_of rfl rfl rfl rfl) (pmk_X X_BadDiligent (hr.mono (by decide)) (by rfl) (pa_cons (pv 3) pa_nil)))) pss_nil) (pss_one (ps_expr (pe_bm PySem.F.plainAttrs_list PySem.F.slot_list_append PySem.F.type_list_append mt_append (pv 2) (pa_cons (pv 3) pa_nil)))))) (pss_one (ps_ret (pe_callTy call_tuple_of (by rfl) T.tuple (by decide +kernel) (pa_cons (pe_callB cr_sortedI (by rfl) T.sorted (by decide +kernel) (pa_cons (pv 2) pa_nil)) pa_nil)))))))), pure_checked_diligent rfl h⟩), T.checked_diligent, F.kp, (FunD.bindsN F fun _ _ _ _ _ _ us hl => match us, hl with | [_, _], _ => rfl), .nil⟩
theorem K_M_System1 (T : Row g mg base) : CalM g mg base 4 "System" P_System_init [.non] (sp_System_init g) := by
  obtain ⟨fd, F⟩ := T.c.d.def_ 16 (d := d_System_init) rfl
  have C_checked_hands := K_C_checked_hands T
  have C_checked_diligent := K_C_checked_diligent T
  have X_TooMany := K_X_TooMany T
  obtain ⟨ds, hv, hb⟩ := FunD.binds1 (ps := P_System_init) F 2 0 (fun h => by cases h) rfl (fun _ _ _ _ _ _ _ us its h1 h2 => match us, its, h1, h2 with | [_, _], [_], _, _ => ⟨_, rfl, rfl⟩)
  exact ⟨_, fd, ds, He.mkr_ok (T.c.d.fact 45 rfl), F.ok sc_System_init (fun vs H Q E h => by obtain ⟨_, _, _, _, _, _, _, rfl, _⟩ := h; rfl) (fun cdv A outer s H vs Q E hr h => ⟨t_System_init g E, (pss_cons (ps_set (i := 3) sc_System_init.nd rfl (.inl rfl) (pe_calE C_checked_hands (hr.mono (by decide)) (by rfl) (passes_call (takes_of rfl rfl rfl rfl) fun _ _ _ _ h => h) (pa_cons (pv 1) pa_nil))) (pss_cons (ps_set (i := 4) sc_System_init.nd rfl (.inl rfl) (pe_calE C_checked_diligent (hr.mono (by decide)) (by rfl) (passes_call (takes_of rfl rfl rfl rfl) fun _ _ _ _ h => h) (pa_cons (pv 2) (pa_cons (pe_callB call_len_seq (by rfl) T.len PySem.boot_len (pa_cons (pv 3) pa_nil)) pa_nil)))) (pss_cons (ps_set (i := 5) sc_System_init.nd rfl (.inl rfl) (pe_callB (cr_sortX rfl) (by rfl) T.sorted (by decide +kernel) (pa_cons (pe_scT2 (own := [("hand", 6), ("word", 7)]) (vs1 := [7]) (by rfl) sc_System_init.nd (pi_tup (pv 3)) (blkOk_by (own := [("hand", 6), ("word", 7)]) (N := N_System_init) (sc := defScope s_System_init) (by decide +kernel)) (by decide) (fun _ _ _ _ _ => (pg_name (i := 6) sc_System_init.nd rfl (.inl rfl))) (fun _ _ _ _ _ => pts_nil) (fun _ _ _ _ _ => (pi_tup (pe_fld (pv 6) rfl))) (fun _ _ _ _ _ => (pg_name (i := 7) sc_System_init.nd rfl (.inl rfl))) (fun _ _ _ _ _ => pts_nil) (fun _ _ _ _ _ => (pv 7))) pa_nil))) (pss_cons (ps_if (pt_cmpR o_gt (pe_callB call_len_seq (by rfl) T.len PySem.boot_len (pa_cons (pv 5) pa_nil)) (pe_gI (i := 12) T.MOST_WORDS_systems) (nomark _)) (pss_one (ps_raise rfl (takes_of rfl rfl rfl rfl) (pmk_X X_TooMany (hr.mono (by decide)) (by rfl) (pa_cons (pe_gI (i := 12) T.MOST_WORDS_systems) pa_nil)))) pss_nil) (pss_cons (ps_fld (pv 0) (pv 3) rfl) (pss_cons (ps_fld (pv 0) (pv 4) rfl) (pss_cons (ps_fld (pv 0) (pe_callTy call_tuple_of (by rfl) T.tuple (by decide +kernel) (pa_cons (pv 5) pa_nil)) rfl) (pss_one (ps_fld (pv 0) (pe_callTy call_tuple_of (by rfl) T.tuple (by decide +kernel) (pa_cons (pe_lc (own := [("hand", 6)]) (by rfl) sc_System_init.nd (pi_tup (pv 3)) (blkOk_by (own := [("hand", 6)]) (N := N_System_init) (sc := defScope s_System_init) (by decide +kernel)) (fun _ _ _ _ _ => (pg_name (i := 6) sc_System_init.nd rfl (.inl rfl))) (fun _ _ _ _ _ => pts_nil) (fun _ _ _ _ _ => (pe_fld (pv 6) rfl))) pa_nil)) rfl))))))))), pure_System_init T.hand T.sys rfl h⟩), T.System, hb, hv⟩
theorem K_M_System (T : Row g mg base) : CalM g mg base 4 "System" P_System_init [] (sp_System_init g) := by
  obtain ⟨fd, F⟩ := T.c.d.def_ 16 (d := d_System_init) rfl
  have C_checked_hands := K_C_checked_hands T
  have C_checked_diligent := K_C_checked_diligent T
  have X_TooMany := K_X_TooMany T
  obtain ⟨ds, hv, hb⟩ := FunD.binds1 (ps := P_System_init) F 3 1 (fun h => by cases h) rfl (fun _ _ _ _ _ _ _ us its h1 h2 => match us, its, h1, h2 with | [_, _, _], [_], _, _ => ⟨_, rfl, rfl⟩)
  exact ⟨_, fd, ds, He.mkr_ok (T.c.d.fact 45 rfl), F.ok sc_System_init (fun vs H Q E h => by obtain ⟨_, _, _, _, _, _, _, rfl, _⟩ := h; rfl) (fun cdv A outer s H vs Q E hr h => ⟨t_System_init g E, (pss_cons (ps_set (i := 3) sc_System_init.nd rfl (.inl rfl) (pe_calE C_checked_hands (hr.mono (by decide)) (by rfl) (passes_call (takes_of rfl rfl rfl rfl) fun _ _ _ _ h => h) (pa_cons (pv 1) pa_nil))) (pss_cons (ps_set (i := 4) sc_System_init.nd rfl (.inl rfl) (pe_calE C_checked_diligent (hr.mono (by decide)) (by rfl) (passes_call (takes_of rfl rfl rfl rfl) fun _ _ _ _ h => h) (pa_cons (pv 2) (pa_cons (pe_callB call_len_seq (by rfl) T.len PySem.boot_len (pa_cons (pv 3) pa_nil)) pa_nil)))) (pss_cons (ps_set (i := 5) sc_System_init.nd rfl (.inl rfl) (pe_callB (cr_sortX rfl) (by rfl) T.sorted (by decide +kernel) (pa_cons (pe_scT2 (own := [("hand", 6), ("word", 7)]) (vs1 := [7]) (by rfl) sc_System_init.nd (pi_tup (pv 3)) (blkOk_by (own := [("hand", 6), ("word", 7)]) (N := N_System_init) (sc := defScope s_System_init) (by decide +kernel)) (by decide) (fun _ _ _ _ _ => (pg_name (i := 6) sc_System_init.nd rfl (.inl rfl))) (fun _ _ _ _ _ => pts_nil) (fun _ _ _ _ _ => (pi_tup (pe_fld (pv 6) rfl))) (fun _ _ _ _ _ => (pg_name (i := 7) sc_System_init.nd rfl (.inl rfl))) (fun _ _ _ _ _ => pts_nil) (fun _ _ _ _ _ => (pv 7))) pa_nil))) (pss_cons (ps_if (pt_cmpR o_gt (pe_callB call_len_seq (by rfl) T.len PySem.boot_len (pa_cons (pv 5) pa_nil)) (pe_gI (i := 12) T.MOST_WORDS_systems) (nomark _)) (pss_one (ps_raise rfl (takes_of rfl rfl rfl rfl) (pmk_X X_TooMany (hr.mono (by decide)) (by rfl) (pa_cons (pe_gI (i := 12) T.MOST_WORDS_systems) pa_nil)))) pss_nil) (pss_cons (ps_fld (pv 0) (pv 3) rfl) (pss_cons (ps_fld (pv 0) (pv 4) rfl) (pss_cons (ps_fld (pv 0) (pe_callTy call_tuple_of (by rfl) T.tuple (by decide +kernel) (pa_cons (pv 5) pa_nil)) rfl) (pss_one (ps_fld (pv 0) (pe_callTy call_tuple_of (by rfl) T.tuple (by decide +kernel) (pa_cons (pe_lc (own := [("hand", 6)]) (by rfl) sc_System_init.nd (pi_tup (pv 3)) (blkOk_by (own := [("hand", 6)]) (N := N_System_init) (sc := defScope s_System_init) (by decide +kernel)) (fun _ _ _ _ _ => (pg_name (i := 6) sc_System_init.nd rfl (.inl rfl))) (fun _ _ _ _ _ => pts_nil) (fun _ _ _ _ _ => (pe_fld (pv 6) rfl))) pa_nil)) rfl))))))))), pure_System_init T.hand T.sys rfl h⟩), T.System, hb, hv⟩
theorem K_X_BadStates (T : Row g mg base) : XCl g mg base 1 "BadStates" "value" := by
  obtain ⟨fd, F⟩ := T.c.d.def_ 17 (d := d_BadStates_init) rfl
  obtain ⟨h1, h2, h3, h4, h5⟩ := xB_ok (T.x_BadStates)
  exact ⟨h1, h2, h3, T.BadStates, _, fd, P_BadStates_init, h4, h5, F.ok sc_BadStates_init (fun _ _ _ _ h => len_exc h) (fun cdv A outer s H vs Q E hr h => ⟨t_exc g.K "value", pss_one (ps_ost (pv 0) (pv 1)), pure_exc h1 h3 h⟩), (FunD.bindsN F fun _ _ _ _ _ _ us hl => match us, hl with | [_, _], _ => rfl)⟩
theorem K_C_check_standing (T : Row g mg base) : Cal g mg base 3 "check_standing" P_check_standing [] (sp_check_standing g) := by
  obtain ⟨fd, F⟩ := T.c.d.def_ 18 (d := d_check_standing) rfl
  have X_BadStates := K_X_BadStates T
  have C_is_integer := K_C_is_integer T
  exact ⟨_, fd, [], F.ok sc_check_standing (fun vs H Q E h => by obtain ⟨_, _, _, _, rfl, _⟩ := h; rfl) (fun cdv A outer s H vs Q E hr h => ⟨t_check_standing g E, (pss_cons (ps_if (PW.pt (pw_or (pt_not (pt_val (pe_callB call_isi (by rfl) T.isinstance (by decide +kernel) (pa_cons (pv 1) (pa_cons (pe_ty T.tuple) pa_nil))))) (pw_or1 (pt_cmpR o_ne (pe_callB call_len_seq (by rfl) T.len PySem.boot_len (pa_cons (pv 1) pa_nil)) (pe_callB call_len_seq (by rfl) T.len PySem.boot_len (pa_cons (pe_fld (pv 0) rfl) pa_nil)) (nomark _))))) (pss_one (ps_raise rfl (takes_of rfl rfl rfl rfl) (pmk_X X_BadStates (hr.mono (by decide)) (by rfl) (pa_cons (pv 1) pa_nil)))) pss_nil) (pss_one (ps_for (passes_of rfl) rfl (pi_enumT (by rfl) T.enumerate (pa_cons (pe_fld (pv 0) rfl) pa_nil)) (pg_tup (by rfl) (pgs_cons (pg_name (i := 2) sc_check_standing.nd rfl (.inl rfl)) (pgs_cons (pg_name (i := 3) sc_check_standing.nd rfl (.inl rfl)) pgs_nil))) (pss_one (ps_if (PW.pt (pw_or (pt_not (pt_val (pe_cal C_is_integer (hr.mono (by decide)) (by rfl) (pa_cons (pe_ix ix_tup (pv 1) (pv 2) (fun _ _ => rfl)) pa_nil)))) (pw_or1 (pt_cmpR o_nin (pe_ix ix_tup (pv 1) (pv 2) (fun _ _ => rfl)) (pe_fld (pv 3) rfl) (by rfl))))) (pss_one (ps_raise rfl (takes_of rfl rfl rfl rfl) (pmk_X X_BadStates (hr.mono (by decide)) (by rfl) (pa_cons (pv 1) pa_nil)))) pss_nil))))), pure_check_standing T.hand T.sys rfl h⟩), T.check_standing, F.kp, (FunD.bindsN F fun _ _ _ _ _ _ us hl => match us, hl with | [_, _], _ => rfl), .nil⟩
theorem K_C_step_numbers (T : Row g mg base) : Cal g mg base 1 "step_numbers" P_step_numbers [] (sp_step_numbers g) := by
  obtain ⟨fd, F⟩ := T.c.d.def_ 19 (d := d_step_numbers) rfl
  exact ⟨_, fd, [], F.ok sc_step_numbers (fun vs H Q E h => by obtain ⟨_, _, _, _, _, rfl, _⟩ := h; rfl) (fun cdv A outer s H vs Q E hr h => ⟨t_step_numbers g, (pss_cons (ps_if (pt_cmpR o_nin (pv 2) (pe_fld (pv 0) rfl) (by rfl)) (pss_one (ps_ret (pe_lst (pa_cons pe_non pa_nil)))) pss_nil) (pss_one (ps_ret (pe_lc (own := [("at", 3), ("step", 4)]) (by rfl) sc_step_numbers.nd (pi_enumT (by rfl) T.enumerate (pa_cons (pe_fld (pv 0) rfl) pa_nil)) (blkOk_by (own := [("at", 3), ("step", 4)]) (N := N_step_numbers) (sc := defScope s_step_numbers) (by decide +kernel)) (fun _ _ _ _ _ => (pg_tup (by rfl) (pgs_cons (pg_name (i := 3) sc_step_numbers.nd rfl (.inl rfl)) (pgs_cons (pg_name (i := 4) sc_step_numbers.nd rfl (.inl rfl)) pgs_nil)))) (fun _ _ _ _ _ => (pts_one (PW.pt (pw_and (pt_cmpR o_eq (pe_ix ix_tup (pv 4) pe_int (fun _ _ => rfl)) (pv 1) (nomark _)) (pw_and1 (pt_cmpR o_eq (pe_ix ix_tup (pv 4) pe_int (fun _ _ => rfl)) (pv 2) (nomark _))))))) (fun _ _ _ _ _ => (pv 3)))))), pure_step_numbers T.hand rfl h⟩), T.step_numbers, F.kp, (FunD.bindsN F fun _ _ _ _ _ _ us hl => match us, hl with | [_, _, _], _ => rfl), .nil⟩
theorem K_N_System_moves (T : Row g mg base) : CalN g mg base 4 "System" "moves" P_System_moves [] (sp_System_moves g) := by
  obtain ⟨fd, F⟩ := T.c.d.def_ 20 (d := d_System_moves) rfl
  have C_check_standing := K_C_check_standing T
  have C_step_numbers := K_C_step_numbers T
  exact ⟨_, fd, [], He.cls_ok (T.c.d.fact 34 rfl), He.meth_ok (T.c.d.fact 49 rfl), F.ok sc_System_moves (fun vs H Q E h => by obtain ⟨_, _, _, _, rfl, _⟩ := h; rfl) (fun cdv A outer s H vs Q E hr h => ⟨t_System_moves g E, (pss_cons (ps_expr (pe_calE C_check_standing (hr.mono (by decide)) (by rfl) (passes_call (takes_of rfl rfl rfl rfl) fun _ _ _ _ h => h) (pa_cons (pv 0) (pa_cons (pv 1) pa_nil)))) (pss_cons (ps_set (i := 2) sc_System_moves.nd rfl (.inl rfl) (pe_lst pa_nil)) (pss_cons (ps_for (passes_of rfl) rfl (pi_tup (pe_fld (pv 0) rfl)) (pg_name (i := 3) sc_System_moves.nd rfl (.inr rfl)) (pss_cons (ps_set (i := 4) sc_System_moves.nd rfl (.inl rfl) (pe_lst (pa_cons (pe_tup pa_nil) pa_nil))) (pss_cons (ps_for (passes_of rfl) rfl (pi_enumT (by rfl) T.enumerate (pa_cons (pe_fld (pv 0) rfl) pa_nil)) (pg_tup (by rfl) (pgs_cons (pg_name (i := 5) sc_System_moves.nd rfl (.inl rfl)) (pgs_cons (pg_name (i := 6) sc_System_moves.nd rfl (.inl rfl)) pgs_nil))) (pss_cons (ps_set (i := 7) sc_System_moves.nd rfl (.inr rfl) (pe_cal C_step_numbers (hr.mono (by decide)) (by rfl) (pa_cons (pv 6) (pa_cons (pe_ix ix_tup (pv 1) (pv 5) (fun _ _ => rfl)) (pa_cons (pv 3) pa_nil))))) (pss_one (ps_setLc2 (i := 4) (own := [("row", 8), ("number", 9)]) (vs1 := [9]) (by rfl) sc_System_moves.nd rfl rfl (sw_true rfl rfl rfl (by decide +kernel)) (pi_list (pv 4)) (blkOk_by (own := [("row", 8), ("number", 9)]) (N := N_System_moves) (sc := defScope s_System_moves) (by decide +kernel)) (by decide) (fun _ _ _ _ _ => (pg_name (i := 8) sc_System_moves.nd rfl (.inl rfl))) (fun _ _ _ _ _ => pts_nil) (fun _ _ _ _ _ => (pi_list (pv 7))) (fun _ _ _ _ _ => (pg_name (i := 9) sc_System_moves.nd rfl (.inl rfl))) (fun _ _ _ _ _ => pts_nil) (fun _ _ _ _ _ => (pe_op o_catA (pv 8) (pe_tup (pa_cons (pv 9) pa_nil)))))))) (pss_one (ps_expr (pe_bm PySem.F.plainAttrs_list PySem.F.slot_list_extend PySem.F.type_list_extend mt_extend (pv 2) (pa_cons (pe_lc (own := [("row", 8)]) (by rfl) sc_System_moves.nd (pi_list (pv 4)) (blkOk_by (own := [("row", 8)]) (N := N_System_moves) (sc := defScope s_System_moves) (by decide +kernel)) (fun _ _ _ _ _ => (pg_name (i := 8) sc_System_moves.nd rfl (.inl rfl))) (fun _ _ _ _ _ => pts_nil) (fun _ _ _ _ _ => (pe_tup (pa_cons (pv 3) (pa_cons (pv 8) pa_nil))))) pa_nil))))))) (pss_one (ps_ret (pv 2)))))), pure_System_moves T.hand T.sys rfl h⟩), (FunD.bindsN F fun _ _ _ _ _ _ us hl => match us, hl with | [_, _], _ => rfl), .nil⟩
theorem K_C_is_move (T : Row g mg base) : Cal g mg base 2 "is_move" P_is_move [] (sp_is_move g) := by
  obtain ⟨fd, F⟩ := T.c.d.def_ 21 (d := d_is_move) rfl
  have C_is_integer := K_C_is_integer T
  have C_step_numbers := K_C_step_numbers T
  exact ⟨_, fd, [], F.ok sc_is_move (fun vs H Q E h => by obtain ⟨_, _, _, _, _, _, _, rfl, _⟩ := h; rfl) (fun cdv A outer s H vs Q E hr h => ⟨t_is_move g, (pss_cons (ps_if (PW.pt (pw_or (pt_not (pt_val (pe_callB call_isi (by rfl) T.isinstance (by decide +kernel) (pa_cons (pv 2) (pa_cons (pe_ty T.tuple) pa_nil))))) (pw_or1 (pt_cmpR o_ne (pe_callB call_len_seq (by rfl) T.len PySem.boot_len (pa_cons (pv 2) pa_nil)) pe_int (nomark _))))) (pss_one (ps_ret pe_bl)) pss_nil) (pss_cons (ps_asg (pv 2) (pg_tup (by rfl) (pgs_cons (pg_name (i := 3) sc_is_move.nd rfl (.inl rfl)) (pgs_cons (pg_name (i := 4) sc_is_move.nd rfl (.inl rfl)) pgs_nil)))) (pss_cons (ps_if (PW.pt (pw_or (pt_not (pt_val (pe_callB call_isi (by rfl) T.isinstance (by decide +kernel) (pa_cons (pv 3) (pa_cons (pe_ty T.str) pa_nil))))) (pw_or1 (pt_cmpR o_nin (pv 3) (pe_fld (pv 0) rfl) (by rfl))))) (pss_one (ps_ret pe_bl)) pss_nil) (pss_cons (ps_if (PW.pt (pw_or (pt_not (pt_val (pe_callB call_isi (by rfl) T.isinstance (by decide +kernel) (pa_cons (pv 4) (pa_cons (pe_ty T.tuple) pa_nil))))) (pw_or1 (pt_cmpR o_ne (pe_callB call_len_seq (by rfl) T.len PySem.boot_len (pa_cons (pv 4) pa_nil)) (pe_callB call_len_seq (by rfl) T.len PySem.boot_len (pa_cons (pe_fld (pv 0) rfl) pa_nil)) (nomark _))))) (pss_one (ps_ret pe_bl)) pss_nil) (pss_cons (ps_for (passes_of rfl) rfl (pi_enumT (by rfl) T.enumerate (pa_cons (pe_fld (pv 0) rfl) pa_nil)) (pg_tup (by rfl) (pgs_cons (pg_name (i := 5) sc_is_move.nd rfl (.inl rfl)) (pgs_cons (pg_name (i := 6) sc_is_move.nd rfl (.inl rfl)) pgs_nil))) (pss_cons (ps_set (i := 7) sc_is_move.nd rfl (.inl rfl) (pe_ix ix_tup (pv 4) (pv 5) (fun _ _ => rfl))) (pss_cons (ps_if (PW.pt (pw_and (pt_cmpR o_notN (pv 7) pe_non (nomark _)) (pw_and1 (pt_not (pt_val (pe_cal C_is_integer (hr.mono (by decide)) (by rfl) (pa_cons (pv 7) pa_nil))))))) (pss_one (ps_ret pe_bl)) pss_nil) (pss_one (ps_if (pt_cmpR (o_ninD hr) (pv 7) (pe_cal C_step_numbers (hr.mono (by decide)) (by rfl) (pa_cons (pv 6) (pa_cons (pe_ix ix_tup (pv 1) (pv 5) (fun _ _ => rfl)) (pa_cons (pv 3) pa_nil)))) (by rfl)) (pss_one (ps_ret pe_bl)) pss_nil))))) (pss_one (ps_ret pe_bl))))))), pure_is_move T.hand T.sys rfl h⟩), T.is_move, F.kp, (FunD.bindsN F fun _ _ _ _ _ _ us hl => match us, hl with | [_, _, _], _ => rfl), .nil⟩
theorem K_C_led_to (T : Row g mg base) : Cal g mg base 1 "led_to" P_led_to [] (sp_led_to g) := by
  obtain ⟨fd, F⟩ := T.c.d.def_ 22 (d := d_led_to) rfl
  exact ⟨_, fd, [], F.ok sc_led_to (fun vs H Q E h => by obtain ⟨_, _, _, _, _, _, _, rfl, _⟩ := h; rfl) (fun cdv A outer s H vs Q E hr h => ⟨t_led_to g, (pss_cons (ps_set (i := 3) sc_led_to.nd rfl (.inl rfl) (pe_lst pa_nil)) (pss_cons (ps_for (passes_of rfl) rfl (pi_enumT (by rfl) T.enumerate (pa_cons (pe_fld (pv 0) rfl) pa_nil)) (pg_tup (by rfl) (pgs_cons (pg_name (i := 4) sc_led_to.nd rfl (.inl rfl)) (pgs_cons (pg_name (i := 5) sc_led_to.nd rfl (.inl rfl)) pgs_nil))) (pss_cons (ps_set (i := 6) sc_led_to.nd rfl (.inl rfl) (pe_ix ix_tup (pe_ix ix_tup (pv 2) pe_int (fun _ _ => rfl)) (pv 4) (fun _ _ => rfl))) (pss_one (ps_if (pt_cmpR o_isN (pv 6) pe_non (nomark _)) (pss_one (ps_expr (pe_bm PySem.F.plainAttrs_list PySem.F.slot_list_append PySem.F.type_list_append mt_append (pv 3) (pa_cons (pe_ix ix_tup (pv 1) (pv 4) (fun _ _ => rfl)) pa_nil)))) (pss_one (ps_expr (pe_bm PySem.F.plainAttrs_list PySem.F.slot_list_append PySem.F.type_list_append mt_append (pv 3) (pa_cons (pe_ix ix_tup (pe_ix ix_tup (pe_fld (pv 5) rfl) (pv 6) (fun _ _ => rfl)) pe_int (fun _ _ => rfl)) pa_nil)))))))) (pss_one (ps_ret (pe_callTy call_tuple_of (by rfl) T.tuple (by decide +kernel) (pa_cons (pv 3) pa_nil)))))), pure_led_to T.hand T.sys rfl h⟩), T.led_to, F.kp, (FunD.bindsN F fun _ _ _ _ _ _ us hl => match us, hl with | [_, _, _], _ => rfl), .nil⟩
theorem K_N_System_able (T : Row g mg base) : CalN g mg base 4 "System" "able" P_System_able [] (sp_System_able g) := by
  obtain ⟨fd, F⟩ := T.c.d.def_ 23 (d := d_System_able) rfl
  have C_check_standing := K_C_check_standing T
  have C_step_numbers := K_C_step_numbers T
  exact ⟨_, fd, [], He.cls_ok (T.c.d.fact 34 rfl), He.meth_ok (T.c.d.fact 53 rfl), F.ok sc_System_able (fun vs H Q E h => by obtain ⟨_, _, _, _, _, rfl, _⟩ := h; rfl) (fun cdv A outer s H vs Q E hr h => ⟨t_System_able g E, (pss_cons (ps_expr (pe_calE C_check_standing (hr.mono (by decide)) (by rfl) (passes_call (takes_of rfl rfl rfl rfl) fun _ _ _ _ h => h) (pa_cons (pv 0) (pa_cons (pv 1) pa_nil)))) (pss_cons (ps_set (i := 2) sc_System_able.nd rfl (.inl rfl) (pe_lst pa_nil)) (pss_cons (ps_for (passes_of rfl) rfl (pi_tup (pe_fld (pv 0) rfl)) (pg_name (i := 3) sc_System_able.nd rfl (.inr rfl)) (pss_cons (ps_setLc (i := 4) (own := [("at", 6), ("hand", 7)]) (by rfl) sc_System_able.nd rfl rfl (sw_true rfl rfl rfl (by decide +kernel)) (pi_enumT (by rfl) T.enumerate (pa_cons (pe_fld (pv 0) rfl) pa_nil)) (blkOk_by (own := [("at", 6), ("hand", 7)]) (N := N_System_able) (sc := defScope s_System_able) (by decide +kernel)) (fun _ _ _ _ _ => (pg_tup (by rfl) (pgs_cons (pg_name (i := 6) sc_System_able.nd rfl (.inl rfl)) (pgs_cons (pg_name (i := 7) sc_System_able.nd rfl (.inl rfl)) pgs_nil)))) (fun _ _ _ _ _ => (pts_one (pt_cmpR o_in (pv 3) (pe_fld (pv 7) rfl) (by rfl)))) (fun _ _ _ _ _ => (pv 6))) (pss_cons (ps_setLc (i := 5) (own := [("at", 6)]) (by rfl) sc_System_able.nd rfl rfl (sw_true rfl rfl rfl (by decide +kernel)) (pi_list (pv 4)) (blkOk_by (own := [("at", 6)]) (N := N_System_able) (sc := defScope s_System_able) (by decide +kernel)) (fun _ _ _ _ _ => (pg_name (i := 6) sc_System_able.nd rfl (.inl rfl))) (fun _ _ _ _ _ => (pts_one (pt_not (p_truth (pe_cal C_step_numbers (hr.mono (by decide)) (by rfl) (pa_cons (pe_ix ix_tup (pe_fld (pv 0) rfl) (pv 6) (fun _ _ => rfl)) (pa_cons (pe_ix ix_tup (pv 1) (pv 6) (fun _ _ => rfl)) (pa_cons (pv 3) pa_nil)))))))) (fun _ _ _ _ _ => (pv 6))) (pss_one (ps_if (pt_not (p_truth (pv 5))) (pss_one (ps_expr (pe_bm PySem.F.plainAttrs_list PySem.F.slot_list_extend PySem.F.type_list_extend mt_extend (pv 2) (pa_cons (pv 4) pa_nil)))) pss_nil))))) (pss_one (ps_ret (pe_callB (cr_sortedSet rfl) (by rfl) T.sorted (by decide +kernel) (pa_cons (pe_callTy (cr_setI rfl) (by rfl) T.set (by decide +kernel) (pa_cons (pv 2) pa_nil)) pa_nil))))))), pure_System_able T.hand T.sys rfl h⟩), (FunD.bindsN F fun _ _ _ _ _ _ us hl => match us, hl with | [_, _], _ => rfl), .nil⟩
theorem K_X_BadMove (T : Row g mg base) : XCl g mg base 1 "BadMove" "value" := by
  obtain ⟨fd, F⟩ := T.c.d.def_ 24 (d := d_BadMove_init) rfl
  obtain ⟨h1, h2, h3, h4, h5⟩ := xB_ok (T.x_BadMove)
  exact ⟨h1, h2, h3, T.BadMove, _, fd, P_BadMove_init, h4, h5, F.ok sc_BadMove_init (fun _ _ _ _ h => len_exc h) (fun cdv A outer s H vs Q E hr h => ⟨t_exc g.K "value", pss_one (ps_ost (pv 0) (pv 1)), pure_exc h1 h3 h⟩), (FunD.bindsN F fun _ _ _ _ _ _ us hl => match us, hl with | [_, _], _ => rfl)⟩
theorem K_N_System_behind (T : Row g mg base) : CalN g mg base 4 "System" "behind" P_System_behind [] (sp_System_behind g) := by
  obtain ⟨fd, F⟩ := T.c.d.def_ 25 (d := d_System_behind) rfl
  have C_check_standing := K_C_check_standing T
  have C_is_move := K_C_is_move T
  have X_BadMove := K_X_BadMove T
  have C_led_to := K_C_led_to T
  exact ⟨_, fd, [], He.cls_ok (T.c.d.fact 34 rfl), He.meth_ok (T.c.d.fact 55 rfl), F.ok sc_System_behind (fun vs H Q E h => by obtain ⟨_, _, _, _, _, _, _, rfl, _⟩ := h; rfl) (fun cdv A outer s H vs Q E hr h => ⟨t_System_behind g E, (pss_cons (ps_expr (pe_calE C_check_standing (hr.mono (by decide)) (by rfl) (passes_call (takes_of rfl rfl rfl rfl) fun _ _ _ _ h => h) (pa_cons (pv 0) (pa_cons (pv 1) pa_nil)))) (pss_cons (ps_if (pt_not (pt_val (pe_cal C_is_move (hr.mono (by decide)) (by rfl) (pa_cons (pv 0) (pa_cons (pv 1) (pa_cons (pv 2) pa_nil)))))) (pss_one (ps_raise rfl (takes_of rfl rfl rfl rfl) (pmk_X X_BadMove (hr.mono (by decide)) (by rfl) (pa_cons (pv 2) pa_nil)))) pss_nil) (pss_one (ps_ret (pe_cal C_led_to (hr.mono (by decide)) (by rfl) (pa_cons (pv 0) (pa_cons (pv 1) (pa_cons (pv 2) pa_nil)))))))), pure_System_behind rfl h⟩), (FunD.bindsN F fun _ _ _ _ _ _ us hl => match us, hl with | [_, _, _], _ => rfl), .nil⟩
theorem K_N_System_started_at (T : Row g mg base) : CalN g mg base 7 "System" "started_at" P_System_started_at [] (sp_System_started_at g) := by
  obtain ⟨fd, F⟩ := T.c.d.def_ 26 (d := d_System_started_at) rfl
  have C_check_standing := K_C_check_standing T
  have M_Hand := K_M_Hand T
  have M_System := K_M_System T
  exact ⟨_, fd, [], He.cls_ok (T.c.d.fact 34 rfl), He.meth_ok (T.c.d.fact 56 rfl), F.ok sc_System_started_at (fun vs H Q E h => by obtain ⟨_, _, _, _, _, rfl, _⟩ := h; rfl) (fun cdv A outer s H vs Q E hr h => ⟨t_System_started_at g E, (pss_cons (ps_expr (pe_calE C_check_standing (hr.mono (by decide)) (by rfl) (passes_call (takes_of rfl rfl rfl rfl) fun _ _ _ _ h => h) (pa_cons (pv 0) (pa_cons (pv 1) pa_nil)))) (pss_cons (ps_setLc (i := 2) (own := [("at", 3), ("hand", 4)]) (by rfl) sc_System_started_at.nd rfl rfl (sw_true rfl rfl rfl (by decide +kernel)) (pi_enumT (by rfl) T.enumerate (pa_cons (pe_fld (pv 0) rfl) pa_nil)) (blkOk_by (own := [("at", 3), ("hand", 4)]) (N := N_System_started_at) (sc := defScope s_System_started_at) (by decide +kernel)) (fun _ _ _ _ _ => (pg_tup (by rfl) (pgs_cons (pg_name (i := 3) sc_System_started_at.nd rfl (.inl rfl)) (pgs_cons (pg_name (i := 4) sc_System_started_at.nd rfl (.inl rfl)) pgs_nil)))) (fun _ _ _ _ _ => pts_nil) (fun _ _ _ _ _ => (pe_mk M_Hand (hr.mono (by decide)) (by rfl) (pa_cons (pe_ix ix_tup (pv 1) (pv 3) (fun _ _ => rfl)) (pa_cons (pe_fld (pv 4) rfl) pa_nil))))) (pss_one (ps_ret (pe_mkE M_System (hr.mono (by decide)) (by rfl) (passes_call (takes_of rfl rfl rfl rfl) fun _ _ _ _ h => h) (pa_cons (pv 2) (pa_cons (pe_fld (pv 0) rfl) pa_nil))))))), pure_System_started_at T.hand T.sys rfl h⟩), (FunD.bindsN F fun _ _ _ _ _ _ us hl => match us, hl with | [_, _], _ => rfl), .nil⟩
theorem K_C_law_cell (T : Row g mg base) : Cal g mg base 1 "_law_cell" P_law_cell [] (sp_law_cell g) := by
  obtain ⟨fd, F⟩ := T.c.d.def_ 27 (d := d_law_cell) rfl
  exact ⟨_, fd, [], F.ok sc_law_cell (fun vs H Q E h => by obtain ⟨_, _, _, rfl, _⟩ := h; rfl) (fun cdv A outer s H vs Q E hr h => ⟨t_law_cell g, (pss_cons (ps_if (pt_cmpR o_lt (pv 1) (pe_callB call_len_seq (by rfl) T.len PySem.boot_len (pa_cons (pv 0) pa_nil)) (nomark _)) (pss_one (ps_ret (pe_ix ix_list (pv 0) (pv 1) (fun _ _ => rfl)))) pss_nil) (pss_one (ps_ret (pe_op o_add (pe_op o_mul pe_int (pv 1)) pe_int)))), pure_law_cell  h⟩), T._law_cell, F.kp, (FunD.bindsN F fun _ _ _ _ _ _ us hl => match us, hl with | [_, _], _ => rfl), .nil⟩
theorem K_C_law_pool (T : Row g mg base) : Cal g mg base 1 "_law_pool" P_law_pool [] (sp_law_pool g) := by
  obtain ⟨fd, F⟩ := T.c.d.def_ 28 (d := d_law_pool) rfl
  exact ⟨_, fd, [], F.ok sc_law_pool (fun vs H Q E h => by obtain ⟨_, rfl, _⟩ := h; rfl) (fun cdv A outer s H vs Q E hr h => ⟨t_law_pool g, (pss_cons (ps_set (i := 1) sc_law_pool.nd rfl (.inl rfl) pe_int) (pss_cons (ps_if (pt_cmpR o_ge (pv 0) (pe_op o_pow pe_int pe_int) (nomark _)) (pss_one (ps_set (i := 1) sc_law_pool.nd rfl (.inl rfl) (pv 0))) pss_nil) (pss_one (ps_ret (pe_lst (pa_cons (pe_op o_mod (pe_callTy call_int1 (by rfl) T.int (by decide +kernel) (pa_cons (pv 0) pa_nil)) pe_int) (pa_cons (pv 1) (pa_cons pe_int pa_nil)))))))), pure_law_pool  h⟩), T._law_pool, F.kp, (FunD.bindsN F fun _ _ _ _ _ _ us hl => match us, hl with | [_], _ => rfl), .nil⟩
theorem K_C_law_draw (T : Row g mg base) : Cal g mg base 1 "_law_draw" P_law_draw [] (sp_law_draw g) := by
  obtain ⟨fd, F⟩ := T.c.d.def_ 29 (d := d_law_draw) rfl
  exact ⟨_, fd, [], F.ok sc_law_draw (fun vs H Q E h => by obtain ⟨_, _, _, rfl, _⟩ := h; rfl) (fun cdv A outer s H vs Q E hr h => ⟨t_law_draw g, (pss_cons (ps_asg (pe_op o_add (pe_ix ix_list (pv 0) pe_int (fun _ _ => rfl)) pe_int) (pg_sub (pv 0) pe_int set_list)) (pss_cons (ps_if (pt_cmpR o_gt (pe_ix ix_list (pv 0) pe_int (fun _ _ => rfl)) pe_int (nomark _)) (pss_cons (ps_set (i := 2) sc_law_draw.nd rfl (.inl rfl) (pe_op o_mod (pe_callTy call_int1 (by rfl) T.int (by decide +kernel) (pa_cons (pe_ix ix_list (pv 0) pe_int (fun _ _ => rfl)) pa_nil)) (pv 1))) (pss_cons (ps_asg (pe_op o_div (pe_ix ix_list (pv 0) pe_int (fun _ _ => rfl)) (pv 1)) (pg_sub (pv 0) pe_int set_list)) (pss_one (ps_ret (pv 2))))) pss_nil) (pss_cons (ps_set (i := 3) sc_law_draw.nd rfl (.inl rfl) (pe_op o_mod (pe_callTy call_int1 (by rfl) T.int (by decide +kernel) (pa_cons (pe_op o_mul (pe_op o_add (pe_op o_add (pe_ix ix_list (pv 0) pe_int (fun _ _ => rfl)) (pe_op o_mul pe_int (pe_ix ix_list (pv 0) pe_int (fun _ _ => rfl)))) pe_int) pe_int) pa_nil)) pe_int)) (pss_cons (ps_set (i := 3) sc_law_draw.nd rfl (.inl rfl) (pe_op o_mod (pe_callTy call_int1 (by rfl) T.int (by decide +kernel) (pa_cons (pe_op o_mul (pv 3) (pe_op o_add (pe_op o_div (pv 3) pe_int) pe_int)) pa_nil)) pe_int)) (pss_cons (ps_set (i := 3) sc_law_draw.nd rfl (.inl rfl) (pe_op o_mod (pe_callTy call_int1 (by rfl) T.int (by decide +kernel) (pa_cons (pe_op o_mul (pv 3) (pe_op o_add (pe_op o_div (pv 3) pe_int) pe_int)) pa_nil)) pe_int)) (pss_one (ps_ret (pe_op o_mod (pe_callTy call_int1 (by rfl) T.int (by decide +kernel) (pa_cons (pe_op o_div (pv 3) pe_int) pa_nil)) (pv 1))))))))), pure_law_draw  h⟩), T._law_draw, F.kp, (FunD.bindsN F fun _ _ _ _ _ _ us hl => match us, hl with | [_, _], _ => rfl), .nil⟩
theorem K_C_law_name (T : Row g mg base) : Cal g mg base 1 "_law_name" P_law_name [] (sp_law_name g) := by
  obtain ⟨fd, F⟩ := T.c.d.def_ 30 (d := d_law_name) rfl
  exact ⟨_, fd, [], F.ok sc_law_name (fun vs H Q E h => by obtain ⟨_, rfl, _⟩ := h; rfl) (fun cdv A outer s H vs Q E hr h => ⟨t_law_name g, (pss_cons (ps_set (i := 1) sc_law_name.nd rfl (.inl rfl) pe_str) (pss_cons (ps_set (i := 2) sc_law_name.nd rfl (.inl rfl) (pe_op o_add (pv 0) pe_int)) (pss_cons (ps_while (passes_of rfl) (pt_cmpR o_gt (pv 2) pe_int (nomark _)) (pss_cons (ps_set (i := 2) sc_law_name.nd rfl (.inl rfl) (pe_op o_sub (pv 2) pe_int)) (pss_cons (ps_set (i := 1) sc_law_name.nd rfl (.inl rfl) (pe_op o_adds (pe_ix ix_str pe_str (pe_op o_mod (pe_callTy call_int1 (by rfl) T.int (by decide +kernel) (pa_cons (pv 2) pa_nil)) pe_int) (fun _ _ => rfl)) (pv 1))) (pss_one (ps_set (i := 2) sc_law_name.nd rfl (.inl rfl) (pe_op o_div (pv 2) pe_int)))))) (pss_one (ps_ret (pv 1)))))), pure_law_name  h⟩), T._law_name, F.kp, (FunD.bindsN F fun _ _ _ _ _ _ us hl => match us, hl with | [_], _ => rfl), .nil⟩
theorem K_C_law_names (T : Row g mg base) : Cal g mg base 2 "_law_names" P_law_names [] (sp_law_names g) := by
  obtain ⟨fd, F⟩ := T.c.d.def_ 31 (d := d_law_names) rfl
  have C_law_draw := K_C_law_draw T
  have C_law_name := K_C_law_name T
  exact ⟨_, fd, [], F.ok sc_law_names (fun vs H Q E h => by obtain ⟨_, _, _, rfl, _⟩ := h; rfl) (fun cdv A outer s H vs Q E hr h => ⟨t_law_names g, (pss_cons (ps_set (i := 2) sc_law_names.nd rfl (.inl rfl) (pe_lst pa_nil)) (pss_cons (ps_for (passes_of rfl) rfl (pi_range1 (by rfl) T.range (pa_cons (pv 1) pa_nil)) (pg_name (i := 3) sc_law_names.nd rfl (.inl rfl)) (pss_cons (ps_set (i := 4) sc_law_names.nd rfl (.inl rfl) (pe_cal C_law_draw (hr.mono (by decide)) (by rfl) (pa_cons (pv 0) (pa_cons pe_int pa_nil)))) (pss_cons (ps_if (pt_cmpR o_eq (pe_cal C_law_draw (hr.mono (by decide)) (by rfl) (pa_cons (pv 0) (pa_cons pe_int pa_nil))) pe_int (nomark _)) (pss_one (ps_set (i := 4) sc_law_names.nd rfl (.inl rfl) (pe_cal C_law_draw (hr.mono (by decide)) (by rfl) (pa_cons (pv 0) (pa_cons (pe_op o_pow pe_int pe_int) pa_nil))))) pss_nil) (pss_cons (ps_for (passes_of rfl) rfl (pi_range1 (by rfl) T.range (pa_cons (pv 3) pa_nil)) (pg_name (i := 5) sc_law_names.nd rfl (.inl rfl)) (pss_one (ps_if (pt_cmpR o_in (pv 4) (pv 2) (by rfl)) (pss_one (ps_set (i := 4) sc_law_names.nd rfl (.inl rfl) (pe_op o_mod (pe_callTy call_int1 (by rfl) T.int (by decide +kernel) (pa_cons (pe_op o_add (pv 4) pe_int) pa_nil)) (pe_op o_pow pe_int pe_int)))) pss_nil))) (pss_one (ps_expr (pe_bm PySem.F.plainAttrs_list PySem.F.slot_list_append PySem.F.type_list_append mt_append (pv 2) (pa_cons (pv 4) pa_nil)))))))) (pss_one (ps_ret (pe_lc (own := [("_law_number", 4)]) (by rfl) sc_law_names.nd (pi_list (pv 2)) (blkOk_by (own := [("_law_number", 4)]) (N := N_law_names) (sc := defScope s_law_names) (by decide +kernel)) (fun _ _ _ _ _ => (pg_name (i := 4) sc_law_names.nd rfl (.inl rfl))) (fun _ _ _ _ _ => pts_nil) (fun _ _ _ _ _ => (pe_cal C_law_name (hr.mono (by decide)) (by rfl) (pa_cons (pv 4) pa_nil)))))))), pure_law_names  h⟩), T._law_names, F.kp, (FunD.bindsN F fun _ _ _ _ _ _ us hl => match us, hl with | [_, _], _ => rfl), .nil⟩
theorem same_step (T : Row g mg base) {n lv : Nat} {sp : Sp} (C_law_same : Cal g mg base lv "_law_same" P_law_same [] sp) (hsp : ∀ m, n = m + 1 → ∀ vs H Q E, sp_law_same m g vs H Q E → sp vs H Q E) : Cal g mg base (lv + 1) "_law_same" P_law_same [] (sp_law_same n g) := by
  obtain ⟨fd, F⟩ := T.c.d.def_ 32 (d := d_law_same) rfl
  exact ⟨_, fd, [], F.ok sc_law_same (fun vs H Q E h => by obtain ⟨_, _, _, rfl, _⟩ := h; rfl) (fun cdv A outer s H vs Q E hr h => ⟨t_law_same g sp, (pss_cons (ps_if (pt_cmpR o_isN (pv 1) pe_non (nomark _)) (pss_one (ps_ret (pe_cmpR o_isN (pv 0) pe_non (nomark _)))) pss_nil) (pss_cons (ps_if (pt_val (pe_callB call_isi (by rfl) T.isinstance (by decide +kernel) (pa_cons (pv 1) (pa_cons (pe_ty T.bool) pa_nil)))) (pss_one (ps_ret (pe_and (pe_callB call_isi (by rfl) T.isinstance (by decide +kernel) (pa_cons (pv 0) (pa_cons (pe_ty T.bool) pa_nil))) (pe_one (pe_cmpR o_eq (pv 0) (pv 1) (nomark _)))))) pss_nil) (pss_cons (ps_if (pt_val (pe_callB call_isi (by rfl) T.isinstance (by decide +kernel) (pa_cons (pv 1) (pa_cons (pe_ty T.int) pa_nil)))) (pss_one (ps_ret (pe_and (pe_callB call_isi (by rfl) T.isinstance (by decide +kernel) (pa_cons (pv 0) (pa_cons (pe_ty T.int) pa_nil))) (pe_and (pe_not (pe_callB call_isi (by rfl) T.isinstance (by decide +kernel) (pa_cons (pv 0) (pa_cons (pe_ty T.bool) pa_nil)))) (pe_one (pe_cmpR o_eq (pv 0) (pv 1) (nomark _))))))) pss_nil) (pss_cons (ps_if (pt_val (pe_callB call_isi (by rfl) T.isinstance (by decide +kernel) (pa_cons (pv 1) (pa_cons (pe_ty T.str) pa_nil)))) (pss_one (ps_ret (pe_and (pe_callB call_isi (by rfl) T.isinstance (by decide +kernel) (pa_cons (pv 0) (pa_cons (pe_ty T.str) pa_nil))) (pe_one (pe_cmpR o_eq (pv 0) (pv 1) (nomark _)))))) pss_nil) (pss_cons (ps_if (PW.pt (pw_and (pt_val (pe_callB call_isi (by rfl) T.isinstance (by decide +kernel) (pa_cons (pv 1) (pa_cons (pe_ty T.list) pa_nil)))) (pw_and1 (pt_not (pt_val (pe_callB call_isi (by rfl) T.isinstance (by decide +kernel) (pa_cons (pv 0) (pa_cons (pe_ty T.list) pa_nil)))))))) (pss_one (ps_ret pe_bl)) pss_nil) (pss_cons (ps_if (PW.pt (pw_and (pt_val (pe_callB call_isi (by rfl) T.isinstance (by decide +kernel) (pa_cons (pv 1) (pa_cons (pe_ty T.tuple) pa_nil)))) (pw_and1 (pt_not (pt_val (pe_callB call_isi (by rfl) T.isinstance (by decide +kernel) (pa_cons (pv 0) (pa_cons (pe_ty T.tuple) pa_nil)))))))) (pss_one (ps_ret pe_bl)) pss_nil) (pss_cons (ps_if (pt_val (pe_callB call_isi (by rfl) T.isinstance (by decide +kernel) (pa_cons (pv 1) (pa_cons (pe_ty T.dict) pa_nil)))) (pss_one (ps_ret (pe_and (pe_callB call_isi (by rfl) T.isinstance (by decide +kernel) (pa_cons (pv 0) (pa_cons (pe_ty T.dict) pa_nil))) (pe_one (pe_cmpR o_eq (pv 0) (pv 1) (nomark _)))))) pss_nil) (pss_cons (ps_if (pt_cmpR o_ne (pe_callB call_len (by rfl) T.len PySem.boot_len (pa_cons (pv 0) pa_nil)) (pe_callB call_len (by rfl) T.len PySem.boot_len (pa_cons (pv 1) pa_nil)) (nomark _)) (pss_one (ps_ret pe_bl)) pss_nil) (pss_cons (ps_for (passes_of rfl) rfl (pi_range1 (by rfl) T.range (pa_cons (pe_callB call_len (by rfl) T.len PySem.boot_len (pa_cons (pv 1) pa_nil)) pa_nil)) (pg_name (i := 2) sc_law_same.nd rfl (.inl rfl)) (pss_one (ps_if (pt_not (pt_val (pe_cal C_law_same hr (by rfl) (pa_cons (pe_ix ix_seq (pv 0) (pv 2) (fun _ _ => rfl)) (pa_cons (pe_ix ix_seq (pv 1) (pv 2) (fun _ _ => rfl)) pa_nil))))) (pss_one (ps_ret pe_bl)) pss_nil))) (pss_one (ps_ret pe_bl))))))))))), pure_law_same rfl sp hsp h⟩), T._law_same, F.kp, (FunD.bindsN F fun _ _ _ _ _ _ us hl => match us, hl with | [_, _], _ => rfl), .nil⟩
theorem K_law_same (T : Row g mg base) : ∀ n, Cal g mg base (n + 1) "_law_same" P_law_same [] (sp_law_same n g)
  | 0 => by
    obtain ⟨fd, F⟩ := T.c.d.def_ 32 (d := d_law_same) rfl
    exact same_step T (sp := fun _ _ _ _ => False) ⟨_, fd, [], ⟨fun _ _ _ _ h => h.elim, fun _ _ _ _ _ _ _ _ _ _ _ _ _ h => h.elim⟩, T._law_same, F.kp, (FunD.bindsN F fun _ _ _ _ _ _ us hl => match us, hl with | [_, _], _ => rfl), .nil⟩ fun m e => by cases e
  | n + 1 => same_step T (K_law_same T n) fun m e vs H Q E h => by cases e; exact h
theorem K_C_law_steps (T : Row g mg base) : Cal g mg base 2 "_law_steps" P_law_steps [] (sp_law_steps g) := by
  obtain ⟨fd, F⟩ := T.c.d.def_ 33 (d := d_law_steps) rfl
  have C_law_draw := K_C_law_draw T
  exact ⟨_, fd, [], F.ok sc_law_steps (fun vs H Q E h => by obtain ⟨_, _, _, _, _, _, _, rfl, _⟩ := h; rfl) (fun cdv A outer s H vs Q E hr h => ⟨t_law_steps g, (pss_cons (ps_set (i := 4) sc_law_steps.nd rfl (.inl rfl) (pe_lst pa_nil)) (pss_cons (ps_for (passes_of rfl) rfl (pi_range1 (by rfl) T.range (pa_cons (pv 3) pa_nil)) (pg_name (i := 5) sc_law_steps.nd rfl (.inl rfl)) (pss_cons (ps_set (i := 6) sc_law_steps.nd rfl (.inr rfl) (pe_ix ix_list (pv 2) (pe_cal C_law_draw (hr.mono (by decide)) (by rfl) (pa_cons (pv 0) (pa_cons (pe_callB call_len_seq (by rfl) T.len PySem.boot_len (pa_cons (pv 2) pa_nil)) pa_nil))) (fun _ _ => rfl))) (pss_cons (ps_set (i := 7) sc_law_steps.nd rfl (.inl rfl) (pe_ix ix_list (pv 1) (pe_cal C_law_draw (hr.mono (by decide)) (by rfl) (pa_cons (pv 0) (pa_cons (pe_callB call_len_seq (by rfl) T.len PySem.boot_len (pa_cons (pv 1) pa_nil)) pa_nil))) (fun _ _ => rfl))) (pss_cons (ps_set (i := 8) sc_law_steps.nd rfl (.inl rfl) (pe_tup (pa_cons (pv 6) (pa_cons (pv 7) (pa_cons (pe_ix ix_list (pv 2) (pe_cal C_law_draw (hr.mono (by decide)) (by rfl) (pa_cons (pv 0) (pa_cons (pe_callB call_len_seq (by rfl) T.len PySem.boot_len (pa_cons (pv 2) pa_nil)) pa_nil))) (fun _ _ => rfl)) pa_nil))))) (pss_one (ps_if (PW.pt (pw_and (pt_cmpR (o_ninD hr) (pv 8) (pv 4) (by rfl)) (pw_and1 (pt_cmpR o_lt (pe_callB call_len_seq (by rfl) T.len PySem.boot_len (pa_cons (pe_lc (own := [("_law_one", 9)]) (by rfl) sc_law_steps.nd (pi_list (pv 4)) (blkOk_by (own := [("_law_one", 9)]) (N := N_law_steps) (sc := defScope s_law_steps) (by decide +kernel)) (fun _ _ _ _ _ => (pg_name (i := 9) sc_law_steps.nd rfl (.inl rfl))) (fun _ _ _ _ _ => (pts_one (pt_cmpR o_eq (pe_ix ix_tup (pv 9) pe_int (fun _ _ => rfl)) (pv 6) (nomark _)))) (fun _ _ _ _ _ => (pv 9))) pa_nil)) pe_int (nomark _))))) (pss_one (ps_expr (pe_bm PySem.F.plainAttrs_list PySem.F.slot_list_append PySem.F.type_list_append mt_append (pv 4) (pa_cons (pv 8) pa_nil)))) pss_nil)))))) (pss_one (ps_ret (pv 4))))), pure_law_steps rfl h⟩), T._law_steps, F.kp, (FunD.bindsN F fun _ _ _ _ _ _ us hl => match us, hl with | [_, _, _, _], _ => rfl), .nil⟩
theorem K_C_law_hand (T : Row g mg base) : Cal g mg base 3 "_law_hand" P_law_hand [] (sp_law_hand g) := by
  obtain ⟨fd, F⟩ := T.c.d.def_ 34 (d := d_law_hand) rfl
  have C_law_draw := K_C_law_draw T
  have C_law_steps := K_C_law_steps T
  exact ⟨_, fd, [], F.ok sc_law_hand (fun vs H Q E h => by obtain ⟨_, _, _, _, _, _, rfl, _⟩ := h; rfl) (fun cdv A outer s H vs Q E hr h => ⟨t_law_hand g, (pss_cons (ps_set (i := 4) sc_law_hand.nd rfl (.inl rfl) (pe_cal C_law_draw (hr.mono (by decide)) (by rfl) (pa_cons (pv 0) (pa_cons pe_int pa_nil)))) (pss_cons (ps_set (i := 5) sc_law_hand.nd rfl (.inr rfl) (pe_cal C_law_draw (hr.mono (by decide)) (by rfl) (pa_cons (pv 0) (pa_cons pe_int pa_nil)))) (pss_cons (ps_set (i := 6) sc_law_hand.nd rfl (.inr rfl) (pe_op o_add pe_int (pe_cal C_law_draw (hr.mono (by decide)) (by rfl) (pa_cons (pv 0) (pa_cons pe_int pa_nil))))) (pss_cons (ps_setLc (i := 7) (own := [("_law_k", 10)]) (by rfl) sc_law_hand.nd rfl rfl (sw_true rfl rfl rfl (by decide +kernel)) (pi_range1 (by rfl) T.range (pa_cons (pe_op o_add pe_int (pe_cal C_law_draw (hr.mono (by decide)) (by rfl) (pa_cons (pv 0) (pa_cons (pv 2) pa_nil)))) pa_nil)) (blkOk_by (own := [("_law_k", 10)]) (N := N_law_hand) (sc := defScope s_law_hand) (by decide +kernel)) (fun _ _ _ _ _ => (pg_name (i := 10) sc_law_hand.nd rfl (.inl rfl))) (fun _ _ _ _ _ => pts_nil) (fun _ _ _ _ _ => (pe_op o_add (pv 5) (pe_op o_mul (pv 6) (pv 10))))) (pss_cons (ps_set (i := 8) sc_law_hand.nd rfl (.inl rfl) (pe_ix ix_list (pv 7) (pe_cal C_law_draw (hr.mono (by decide)) (by rfl) (pa_cons (pv 0) (pa_cons (pe_callB call_len_seq (by rfl) T.len PySem.boot_len (pa_cons (pv 7) pa_nil)) pa_nil))) (fun _ _ => rfl))) (pss_cons (ps_set (i := 9) sc_law_hand.nd rfl (.inl rfl) (pe_lst pa_nil)) (pss_cons (ps_if (pt_cmpR o_gt (pv 4) pe_int (nomark _)) (pss_one (ps_for (passes_of rfl) rfl (pi_range1 (by rfl) T.range (pa_cons (pe_callB call_len_seq (by rfl) T.len PySem.boot_len (pa_cons (pv 7) pa_nil)) pa_nil)) (pg_name (i := 10) sc_law_hand.nd rfl (.inl rfl)) (pss_cons (ps_set (i := 11) sc_law_hand.nd rfl (.inl rfl) (pe_ix ix_list (pv 1) (pe_cal C_law_draw (hr.mono (by decide)) (by rfl) (pa_cons (pv 0) (pa_cons (pe_callB call_len_seq (by rfl) T.len PySem.boot_len (pa_cons (pv 1) pa_nil)) pa_nil))) (fun _ _ => rfl))) (pss_one (ps_expr (pe_bm PySem.F.plainAttrs_list PySem.F.slot_list_append PySem.F.type_list_append mt_append (pv 9) (pa_cons (pe_tup (pa_cons (pe_ix ix_list (pv 7) (pv 10) (fun _ _ => rfl)) (pa_cons (pv 11) (pa_cons (pe_ix ix_list (pv 7) (pe_op o_mod (pe_callTy call_int1 (by rfl) T.int (by decide +kernel) (pa_cons (pe_op o_add (pv 10) pe_int) pa_nil)) (pe_callB call_len_seq (by rfl) T.len PySem.boot_len (pa_cons (pv 7) pa_nil))) (fun _ _ => rfl)) pa_nil)))) pa_nil))))))) pss_nil) (pss_cons (ps_for (passes_of rfl) rfl (pi_list (pe_cal C_law_steps (hr.mono (by decide)) (by rfl) (pa_cons (pv 0) (pa_cons (pv 1) (pa_cons (pv 7) (pa_cons (pe_op o_add pe_int (pe_cal C_law_draw (hr.mono (by decide)) (by rfl) (pa_cons (pv 0) (pa_cons (pv 3) pa_nil)))) pa_nil)))))) (pg_name (i := 12) sc_law_hand.nd rfl (.inr rfl)) (pss_cons (ps_set (i := 13) sc_law_hand.nd rfl (.inl rfl) (pe_callB call_len_seq (by rfl) T.len PySem.boot_len (pa_cons (pe_lc (own := [("_law_one", 14)]) (by rfl) sc_law_hand.nd (pi_list (pv 9)) (blkOk_by (own := [("_law_one", 14)]) (N := N_law_hand) (sc := defScope s_law_hand) (by decide +kernel)) (fun _ _ _ _ _ => (pg_name (i := 14) sc_law_hand.nd rfl (.inl rfl))) (fun _ _ _ _ _ => (pts_one (pt_cmpR o_eq (pe_ix ix_tup (pv 14) pe_int (fun _ _ => rfl)) (pe_ix ix_tup (pv 12) pe_int (fun _ _ => rfl)) (nomark _)))) (fun _ _ _ _ _ => (pv 14))) pa_nil))) (pss_one (ps_if (PW.pt (pw_and (pt_cmpR (o_ninD hr) (pv 12) (pv 9) (by rfl)) (pw_and (pt_cmpR o_lt (pv 13) pe_int (nomark _)) (pw_and1 (pt_cmpR o_lt (pe_callB call_len_seq (by rfl) T.len PySem.boot_len (pa_cons (pv 9) pa_nil)) (pv 3) (nomark _)))))) (pss_one (ps_expr (pe_bm PySem.F.plainAttrs_list PySem.F.slot_list_append PySem.F.type_list_append mt_append (pv 9) (pa_cons (pv 12) pa_nil)))) pss_nil)))) (pss_one (ps_ret (pe_tup (pa_cons (pv 8) (pa_cons (pv 9) pa_nil))))))))))))), pure_law_hand rfl h⟩), T._law_hand, F.kp, (FunD.bindsN F fun _ _ _ _ _ _ us hl => match us, hl with | [_, _, _, _], _ => rfl), .nil⟩
theorem K_C_law_rows (T : Row g mg base) : Cal g mg base 4 "_law_rows" P_law_rows [] (sp_law_rows g) := by
  obtain ⟨fd, F⟩ := T.c.d.def_ 35 (d := d_law_rows) rfl
  have C_law_cell := K_C_law_cell T
  have C_law_pool := K_C_law_pool T
  have C_law_draw := K_C_law_draw T
  have C_law_names := K_C_law_names T
  have C_law_hand := K_C_law_hand T
  exact ⟨_, fd, [], F.ok sc_law_rows (fun vs H Q E h => by obtain ⟨_, _, _, _, _, _, rfl, _⟩ := h; rfl) (fun cdv A outer s H vs Q E hr h => ⟨t_law_rows g, (pss_cons (ps_set (i := 5) sc_law_rows.nd rfl (.inr rfl) (pe_cal C_law_pool (hr.mono (by decide)) (by rfl) (pa_cons (pe_cal C_law_cell (hr.mono (by decide)) (by rfl) (pa_cons (pv 0) (pa_cons pe_int pa_nil))) pa_nil))) (pss_cons (ps_set (i := 6) sc_law_rows.nd rfl (.inl rfl) (pe_op o_add pe_int (pe_cal C_law_draw (hr.mono (by decide)) (by rfl) (pa_cons (pv 5) (pa_cons (pv 1) pa_nil))))) (pss_cons (ps_set (i := 7) sc_law_rows.nd rfl (.inr rfl) (pe_lc (own := [("_law_k", 10)]) (by rfl) sc_law_rows.nd (pi_range1 (by rfl) T.range (pa_cons (pv 6) pa_nil)) (blkOk_by (own := [("_law_k", 10)]) (N := N_law_rows) (sc := defScope s_law_rows) (by decide +kernel)) (fun _ _ _ _ _ => (pg_name (i := 10) sc_law_rows.nd rfl (.inl rfl))) (fun _ _ _ _ _ => pts_nil) (fun _ _ _ _ _ => (pe_cal C_law_draw (hr.mono (by decide)) (by rfl) (pa_cons (pv 5) (pa_cons pe_int pa_nil)))))) (pss_cons (ps_set (i := 8) sc_law_rows.nd rfl (.inl rfl) (pe_cal C_law_names (hr.mono (by decide)) (by rfl) (pa_cons (pv 5) (pa_cons (pe_op o_add pe_int (pe_cal C_law_draw (hr.mono (by decide)) (by rfl) (pa_cons (pv 5) (pa_cons (pv 2) pa_nil)))) pa_nil)))) (pss_cons (ps_set (i := 9) sc_law_rows.nd rfl (.inl rfl) (pe_lst pa_nil)) (pss_cons (ps_for (passes_of rfl) rfl (pi_range1 (by rfl) T.range (pa_cons (pv 6) pa_nil)) (pg_name (i := 10) sc_law_rows.nd rfl (.inl rfl)) (pss_one (ps_expr (pe_bm PySem.F.plainAttrs_list PySem.F.slot_list_append PySem.F.type_list_append mt_append (pv 9) (pa_cons (pe_cal C_law_hand (hr.mono (by decide)) (by rfl) (pa_cons (pe_cal C_law_pool (hr.mono (by decide)) (by rfl) (pa_cons (pe_cal C_law_cell (hr.mono (by decide)) (by rfl) (pa_cons (pv 0) (pa_cons (pe_op o_add pe_int (pv 10)) pa_nil))) pa_nil)) (pa_cons (pv 8) (pa_cons (pv 3) (pa_cons (pv 4) pa_nil))))) pa_nil))))) (pss_one (ps_ret (pe_tup (pa_cons (pv 9) (pa_cons (pe_lc (own := [("_law_k", 10)]) (by rfl) sc_law_rows.nd (pi_range1 (by rfl) T.range (pa_cons (pv 6) pa_nil)) (blkOk_by (own := [("_law_k", 10)]) (N := N_law_rows) (sc := defScope s_law_rows) (by decide +kernel)) (fun _ _ _ _ _ => (pg_name (i := 10) sc_law_rows.nd rfl (.inl rfl))) (fun _ _ _ _ _ => (pts_one (pt_cmpR o_gt (pe_ix ix_list (pv 7) (pv 10) (fun _ _ => rfl)) pe_int (nomark _)))) (fun _ _ _ _ _ => (pv 10))) pa_nil))))))))))), pure_law_rows rfl h⟩), T._law_rows, F.kp, (FunD.bindsN F fun _ _ _ _ _ _ us hl => match us, hl with | [_, _, _, _, _], _ => rfl), .nil⟩
theorem K_C_law_system (T : Row g mg base) : Cal g mg base 7 "_law_system" P_law_system [] (sp_law_system g) := by
  obtain ⟨fd, F⟩ := T.c.d.def_ 36 (d := d_law_system) rfl
  have M_System := K_M_System T
  have M_Hand := K_M_Hand T
  exact ⟨_, fd, [], F.ok sc_law_system (fun vs H Q E h => by obtain ⟨_, _, _, _, rfl, _⟩ := h; rfl) (fun cdv A outer s H vs Q E hr h => ⟨t_law_system g, (pss_one (ps_ret (pe_mk M_System (hr.mono (by decide)) (by rfl) (pa_cons (pe_lc (own := [("_law_row", 2)]) (by rfl) sc_law_system.nd (pi_list (pv 0)) (blkOk_by (own := [("_law_row", 2)]) (N := N_law_system) (sc := defScope s_law_system) (by decide +kernel)) (fun _ _ _ _ _ => (pg_name (i := 2) sc_law_system.nd rfl (.inl rfl))) (fun _ _ _ _ _ => pts_nil) (fun _ _ _ _ _ => (pe_mk M_Hand (hr.mono (by decide)) (by rfl) (pa_cons (pe_ix ix_tup (pv 2) pe_int (fun _ _ => rfl)) (pa_cons (pe_callTy call_list_of (by rfl) T.list (by decide +kernel) (pa_cons (pe_ix ix_tup (pv 2) pe_int (fun _ _ => rfl)) pa_nil)) pa_nil))))) (pa_cons (pe_callTy call_list_of (by rfl) T.list (by decide +kernel) (pa_cons (pv 1) pa_nil)) pa_nil))))), pure_law_system rfl h⟩), T._law_system, F.kp, (FunD.bindsN F fun _ _ _ _ _ _ us hl => match us, hl with | [_, _], _ => rfl), .nil⟩
theorem K_C_law_words (T : Row g mg base) : Cal g mg base 1 "_law_words" P_law_words [] (sp_law_words g) := by
  obtain ⟨fd, F⟩ := T.c.d.def_ 37 (d := d_law_words) rfl
  exact ⟨_, fd, [], F.ok sc_law_words (fun vs H Q E h => by obtain ⟨_, _, rfl, _⟩ := h; rfl) (fun cdv A outer s H vs Q E hr h => ⟨t_law_words g, (pss_cons (ps_set (i := 1) sc_law_words.nd rfl (.inl rfl) (pe_lst pa_nil)) (pss_cons (ps_for (passes_of rfl) rfl (pi_list (pv 0)) (pg_name (i := 2) sc_law_words.nd rfl (.inl rfl)) (pss_one (ps_set (i := 1) sc_law_words.nd rfl (.inl rfl) (pe_op o_cat (pv 1) (pe_lc (own := [("_law_step", 3)]) (by rfl) sc_law_words.nd (pi_list (pe_ix ix_tup (pv 2) pe_int (fun _ _ => rfl))) (blkOk_by (own := [("_law_step", 3)]) (N := N_law_words) (sc := defScope s_law_words) (by decide +kernel)) (fun _ _ _ _ _ => (pg_name (i := 3) sc_law_words.nd rfl (.inl rfl))) (fun _ _ _ _ _ => pts_nil) (fun _ _ _ _ _ => (pe_ix ix_tup (pv 3) pe_int (fun _ _ => rfl)))))))) (pss_one (ps_ret (pe_callB (cr_sortX rfl) (by rfl) T.sorted (by decide +kernel) (pa_cons (pe_callTy (cr_setT rfl) (by rfl) T.set (by decide +kernel) (pa_cons (pv 1) pa_nil)) pa_nil)))))), pure_law_words rfl h⟩), T._law_words, F.kp, (FunD.bindsN F fun _ _ _ _ _ _ us hl => match us, hl with | [_], _ => rfl), .nil⟩
theorem K_C_law_numbers (T : Row g mg base) : Cal g mg base 1 "_law_numbers" P_law_numbers [] (sp_law_numbers g) := by
  obtain ⟨fd, F⟩ := T.c.d.def_ 38 (d := d_law_numbers) rfl
  exact ⟨_, fd, [], F.ok sc_law_numbers (fun vs H Q E h => by obtain ⟨_, _, _, _, rfl, _⟩ := h; rfl) (fun cdv A outer s H vs Q E hr h => ⟨t_law_numbers g, (pss_cons (ps_if (pt_cmpR o_nin (pv 2) (pe_lc (own := [("_law_step", 3)]) (by rfl) sc_law_numbers.nd (pi_list (pe_ix ix_tup (pv 0) pe_int (fun _ _ => rfl))) (blkOk_by (own := [("_law_step", 3)]) (N := N_law_numbers) (sc := defScope s_law_numbers) (by decide +kernel)) (fun _ _ _ _ _ => (pg_name (i := 3) sc_law_numbers.nd rfl (.inl rfl))) (fun _ _ _ _ _ => pts_nil) (fun _ _ _ _ _ => (pe_ix ix_tup (pv 3) pe_int (fun _ _ => rfl)))) (by rfl)) (pss_one (ps_ret (pe_lst (pa_cons pe_non pa_nil)))) pss_nil) (pss_one (ps_ret (pe_lc (own := [("_law_k", 4)]) (by rfl) sc_law_numbers.nd (pi_range1 (by rfl) T.range (pa_cons (pe_callB call_len_seq (by rfl) T.len PySem.boot_len (pa_cons (pe_ix ix_tup (pv 0) pe_int (fun _ _ => rfl)) pa_nil)) pa_nil)) (blkOk_by (own := [("_law_k", 4)]) (N := N_law_numbers) (sc := defScope s_law_numbers) (by decide +kernel)) (fun _ _ _ _ _ => (pg_name (i := 4) sc_law_numbers.nd rfl (.inl rfl))) (fun _ _ _ _ _ => (pts_one (PW.pt (pw_and (pt_cmpR o_eq (pe_ix ix_tup (pe_ix ix_list (pe_ix ix_tup (pv 0) pe_int (fun _ _ => rfl)) (pv 4) (fun _ _ => rfl)) pe_int (fun _ _ => rfl)) (pv 1) (nomark _)) (pw_and1 (pt_cmpR o_eq (pe_ix ix_tup (pe_ix ix_list (pe_ix ix_tup (pv 0) pe_int (fun _ _ => rfl)) (pv 4) (fun _ _ => rfl)) pe_int (fun _ _ => rfl)) (pv 2) (nomark _))))))) (fun _ _ _ _ _ => (pv 4)))))), pure_law_numbers rfl h⟩), T._law_numbers, F.kp, (FunD.bindsN F fun _ _ _ _ _ _ us hl => match us, hl with | [_, _, _], _ => rfl), .nil⟩
theorem K_C_law_behind (T : Row g mg base) : Cal g mg base 1 "_law_behind" P_law_behind [] (sp_law_behind g) := by
  obtain ⟨fd, F⟩ := T.c.d.def_ 39 (d := d_law_behind) rfl
  exact ⟨_, fd, [], F.ok sc_law_behind (fun vs H Q E h => by obtain ⟨_, _, _, _, _, _, rfl, _⟩ := h; rfl) (fun cdv A outer s H vs Q E hr h => ⟨t_law_behind g, (pss_cons (ps_set (i := 3) sc_law_behind.nd rfl (.inl rfl) (pe_lst pa_nil)) (pss_cons (ps_for (passes_of rfl) rfl (pi_range1 (by rfl) T.range (pa_cons (pe_callB call_len_seq (by rfl) T.len PySem.boot_len (pa_cons (pv 0) pa_nil)) pa_nil)) (pg_name (i := 4) sc_law_behind.nd rfl (.inl rfl)) (pss_one (ps_if (pt_cmpR o_isN (pe_ix ix_tup (pe_ix ix_tup (pv 2) pe_int (fun _ _ => rfl)) (pv 4) (fun _ _ => rfl)) pe_non (nomark _)) (pss_one (ps_expr (pe_bm PySem.F.plainAttrs_list PySem.F.slot_list_append PySem.F.type_list_append mt_append (pv 3) (pa_cons (pe_ix ix_tup (pv 1) (pv 4) (fun _ _ => rfl)) pa_nil)))) (pss_one (ps_expr (pe_bm PySem.F.plainAttrs_list PySem.F.slot_list_append PySem.F.type_list_append mt_append (pv 3) (pa_cons (pe_ix ix_tup (pe_ix ix_list (pe_ix ix_tup (pe_ix ix_list (pv 0) (pv 4) (fun _ _ => rfl)) pe_int (fun _ _ => rfl)) (pe_ix ix_tup (pe_ix ix_tup (pv 2) pe_int (fun _ _ => rfl)) (pv 4) (fun _ _ => rfl)) (fun _ _ => rfl)) pe_int (fun _ _ => rfl)) pa_nil))))))) (pss_one (ps_ret (pe_callTy call_tuple_of (by rfl) T.tuple (by decide +kernel) (pa_cons (pv 3) pa_nil)))))), pure_law_behind rfl h⟩), T._law_behind, F.kp, (FunD.bindsN F fun _ _ _ _ _ _ us hl => match us, hl with | [_, _, _], _ => rfl), .nil⟩
theorem K_C_k08_reached (T : Row g mg base) : Cal g mg base 1 "_law_reached" P_k08_reached [] (sp_k08_reached g) := by
  obtain ⟨fd, F⟩ := T.c.d.def_ 40 (d := d_k08_reached) rfl
  exact ⟨_, fd, [], F.ok sc_k08_reached (fun vs H Q E h => by obtain ⟨_, _, rfl, _⟩ := h; rfl) (fun cdv A outer s H vs Q E hr h => ⟨t_k08__law_reached g, (pss_cons (ps_set (i := 1) sc_k08_reached.nd rfl (.inl rfl) (pe_lst (pa_cons (pe_ix ix_tup (pv 0) pe_int (fun _ _ => rfl)) pa_nil))) (pss_cons (ps_for (passes_of rfl) rfl (pi_range1 (by rfl) T.range (pa_cons pe_int pa_nil)) (pg_name (i := 2) sc_k08_reached.nd rfl (.inl rfl)) (pss_one (ps_for (passes_of rfl) rfl (pi_list (pe_ix ix_tup (pv 0) pe_int (fun _ _ => rfl))) (pg_name (i := 3) sc_k08_reached.nd rfl (.inl rfl)) (pss_one (ps_if (PW.pt (pw_and (pt_cmpR o_in (pe_ix ix_tup (pv 3) pe_int (fun _ _ => rfl)) (pv 1) (by rfl)) (pw_and1 (pt_cmpR o_nin (pe_ix ix_tup (pv 3) pe_int (fun _ _ => rfl)) (pv 1) (by rfl))))) (pss_one (ps_expr (pe_bm PySem.F.plainAttrs_list PySem.F.slot_list_append PySem.F.type_list_append mt_append (pv 1) (pa_cons (pe_ix ix_tup (pv 3) pe_int (fun _ _ => rfl)) pa_nil)))) pss_nil))))) (pss_one (ps_ret (pe_callB cr_sortedI (by rfl) T.sorted (by decide +kernel) (pa_cons (pv 1) pa_nil)))))), pure_k08__law_reached rfl h⟩), T._law_reached, F.kp, (FunD.bindsN F fun _ _ _ _ _ _ us hl => match us, hl with | [_], _ => rfl), .nil⟩
theorem K_C_law_standings (T : Row g mg base) : Cal g mg base 2 "_law_standings" P_law_standings [] (sp_law_standings g) := by
  obtain ⟨fd, F⟩ := T.c.d.def_ 41 (d := d_law_standings) rfl
  have C_k08_reached := K_C_k08_reached T
  exact ⟨_, fd, [], F.ok sc_law_standings (fun vs H Q E h => by obtain ⟨_, _, rfl, _⟩ := h; rfl) (fun cdv A outer s H vs Q E hr h => ⟨t_law_standings g, (pss_cons (ps_set (i := 1) sc_law_standings.nd rfl (.inl rfl) (pe_lst (pa_cons (pe_tup pa_nil) pa_nil))) (pss_cons (ps_for (passes_of rfl) rfl (pi_list (pv 0)) (pg_name (i := 2) sc_law_standings.nd rfl (.inl rfl)) (pss_cons (ps_set (i := 3) sc_law_standings.nd rfl (.inl rfl) (pe_lst pa_nil)) (pss_cons (ps_for (passes_of rfl) rfl (pi_list (pv 1)) (pg_name (i := 4) sc_law_standings.nd rfl (.inr rfl)) (pss_one (ps_set (i := 3) sc_law_standings.nd rfl (.inl rfl) (pe_op o_cat (pv 3) (pe_lc (own := [("_law_state", 5)]) (by rfl) sc_law_standings.nd (pi_list (pe_cal C_k08_reached (hr.mono (by decide)) (by rfl) (pa_cons (pv 2) pa_nil))) (blkOk_by (own := [("_law_state", 5)]) (N := N_law_standings) (sc := defScope s_law_standings) (by decide +kernel)) (fun _ _ _ _ _ => (pg_name (i := 5) sc_law_standings.nd rfl (.inl rfl))) (fun _ _ _ _ _ => pts_nil) (fun _ _ _ _ _ => (pe_op o_catA (pv 4) (pe_tup (pa_cons (pv 5) pa_nil))))))))) (pss_one (ps_set (i := 1) sc_law_standings.nd rfl (.inl rfl) (pv 3)))))) (pss_one (ps_ret (pv 1))))), pure_law_standings rfl h⟩), T._law_standings, F.kp, (FunD.bindsN F fun _ _ _ _ _ _ us hl => match us, hl with | [_], _ => rfl), .nil⟩
theorem K_C_law_count (T : Row g mg base) : Cal g mg base 2 "_law_count" P_law_count [] (sp_law_count g) := by
  obtain ⟨fd, F⟩ := T.c.d.def_ 42 (d := d_law_count) rfl
  have C_law_numbers := K_C_law_numbers T
  exact ⟨_, fd, [], F.ok sc_law_count (fun vs H Q E h => by obtain ⟨_, _, _, _, _, rfl, _⟩ := h; rfl) (fun cdv A outer s H vs Q E hr h => ⟨t_law_count g, (pss_cons (ps_set (i := 3) sc_law_count.nd rfl (.inl rfl) pe_int) (pss_cons (ps_for (passes_of rfl) rfl (pi_range1 (by rfl) T.range (pa_cons (pe_callB call_len_seq (by rfl) T.len PySem.boot_len (pa_cons (pv 0) pa_nil)) pa_nil)) (pg_name (i := 4) sc_law_count.nd rfl (.inl rfl)) (pss_one (ps_set (i := 3) sc_law_count.nd rfl (.inl rfl) (pe_op o_mul (pv 3) (pe_callB call_len_seq (by rfl) T.len PySem.boot_len (pa_cons (pe_cal C_law_numbers (hr.mono (by decide)) (by rfl) (pa_cons (pe_ix ix_list (pv 0) (pv 4) (fun _ _ => rfl)) (pa_cons (pe_ix ix_tup (pv 1) (pv 4) (fun _ _ => rfl)) (pa_cons (pv 2) pa_nil)))) pa_nil)))))) (pss_one (ps_ret (pv 3))))), pure_law_count rfl h⟩), T._law_count, F.kp, (FunD.bindsN F fun _ _ _ _ _ _ us hl => match us, hl with | [_, _, _], _ => rfl), .nil⟩
theorem K_C_law_is_right (T : Row g mg base) : Cal g mg base 2 "_law_is_right" P_law_is_right [] (sp_law_is_right g) := by
  obtain ⟨fd, F⟩ := T.c.d.def_ 43 (d := d_law_is_right) rfl
  have C_law_numbers := K_C_law_numbers T
  have C_law_words := K_C_law_words T
  exact ⟨_, fd, [], F.ok sc_law_is_right (fun vs H Q E h => by obtain ⟨_, _, _, _, _, _, rfl, _⟩ := h; rfl) (fun cdv A outer s H vs Q E hr h => ⟨t_law_is_right g, (pss_cons (ps_if (PW.pt (pw_or (pt_not (pt_val (pe_callB call_isi (by rfl) T.isinstance (by decide +kernel) (pa_cons (pv 2) (pa_cons (pe_ty T.tuple) pa_nil))))) (pw_or (pt_cmpR o_ne (pe_callB call_len_seq (by rfl) T.len PySem.boot_len (pa_cons (pv 2) pa_nil)) pe_int (nomark _)) (pw_or1 (pt_not (pt_val (pe_callB call_isi (by rfl) T.isinstance (by decide +kernel) (pa_cons (pe_ix ix_tup (pv 2) pe_int (fun _ _ => rfl)) (pa_cons (pe_ty T.str) pa_nil))))))))) (pss_one (ps_ret pe_bl)) pss_nil) (pss_cons (ps_if (PW.pt (pw_or (pt_not (pt_val (pe_callB call_isi (by rfl) T.isinstance (by decide +kernel) (pa_cons (pe_ix ix_tup (pv 2) pe_int (fun _ _ => rfl)) (pa_cons (pe_ty T.tuple) pa_nil))))) (pw_or1 (pt_cmpR o_ne (pe_callB call_len_seq (by rfl) T.len PySem.boot_len (pa_cons (pe_ix ix_tup (pv 2) pe_int (fun _ _ => rfl)) pa_nil)) (pe_callB call_len_seq (by rfl) T.len PySem.boot_len (pa_cons (pv 0) pa_nil)) (nomark _))))) (pss_one (ps_ret pe_bl)) pss_nil) (pss_cons (ps_for (passes_of rfl) rfl (pi_range1 (by rfl) T.range (pa_cons (pe_callB call_len_seq (by rfl) T.len PySem.boot_len (pa_cons (pv 0) pa_nil)) pa_nil)) (pg_name (i := 3) sc_law_is_right.nd rfl (.inl rfl)) (pss_cons (ps_set (i := 4) sc_law_is_right.nd rfl (.inl rfl) (pe_ix ix_tup (pe_ix ix_tup (pv 2) pe_int (fun _ _ => rfl)) (pv 3) (fun _ _ => rfl))) (pss_one (ps_if (PW.pt (pw_or (pt_val (pe_callB call_isi (by rfl) T.isinstance (by decide +kernel) (pa_cons (pv 4) (pa_cons (pe_ty T.bool) pa_nil)))) (pw_or1 (pt_cmpR (o_ninD hr) (pv 4) (pe_cal C_law_numbers (hr.mono (by decide)) (by rfl) (pa_cons (pe_ix ix_list (pv 0) (pv 3) (fun _ _ => rfl)) (pa_cons (pe_ix ix_tup (pv 1) (pv 3) (fun _ _ => rfl)) (pa_cons (pe_ix ix_tup (pv 2) pe_int (fun _ _ => rfl)) pa_nil)))) (by rfl))))) (pss_one (ps_ret pe_bl)) pss_nil)))) (pss_one (ps_ret (pe_cmpR o_in (pe_ix ix_tup (pv 2) pe_int (fun _ _ => rfl)) (pe_cal C_law_words (hr.mono (by decide)) (by rfl) (pa_cons (pv 0) pa_nil)) (by rfl))))))), pure_law_is_right rfl h⟩), T._law_is_right, F.kp, (FunD.bindsN F fun _ _ _ _ _ _ us hl => match us, hl with | [_, _, _], _ => rfl), .nil⟩
theorem K_C_k08_holds (T : Row g mg base) : Cal g mg base 8 "_law_holds" P_k08_holds [] (sp_k08_holds g) := by
  obtain ⟨fd, F⟩ := T.c.d.def_ 44 (d := d_k08_holds) rfl
  have N_System_moves := K_N_System_moves T
  have C_law_is_right := K_C_law_is_right T
  have C_law_behind := K_C_law_behind T
  have N_System_behind := K_N_System_behind T
  have C_law_same := K_law_same T 3
  have C_law_words := K_C_law_words T
  have C_law_count := K_C_law_count T
  have N_System_able := K_N_System_able T
  have N_System_started_at := K_N_System_started_at T
  exact ⟨_, fd, [], F.ok sc_k08_holds (fun vs H Q E h => by obtain ⟨_, _, _, _, _, _, _, rfl, _⟩ := h; rfl) (fun cdv A outer s H vs Q E hr h => ⟨t_k08__law_holds g, (pss_cons (ps_set (i := 3) sc_k08_holds.nd rfl (.inr rfl) (pe_me N_System_moves (pv 0) (hr.mono (by decide)) (pa_cons (pv 2) pa_nil))) (pss_cons (ps_set (i := 4) sc_k08_holds.nd rfl (.inl rfl) (pe_lst pa_nil)) (pss_cons (ps_for (passes_of rfl) rfl (pi_range1 (by rfl) T.range (pa_cons (pe_callB call_len_seq (by rfl) T.len PySem.boot_len (pa_cons (pv 3) pa_nil)) pa_nil)) (pg_name (i := 5) sc_k08_holds.nd rfl (.inr rfl)) (pss_cons (ps_if (PW.pt (pw_or (pt_not (pt_val (pe_cal C_law_is_right (hr.mono (by decide)) (by rfl) (pa_cons (pv 1) (pa_cons (pv 2) (pa_cons (pe_ix ix_list (pv 3) (pv 5) (fun _ _ => rfl)) pa_nil)))))) (pw_or1 (pt_cmpR (o_inD hr) (pe_ix ix_list (pv 3) (pv 5) (fun _ _ => rfl)) (pe_slice sl_list (pv 3) po_none (po_some (pv 5))) (by rfl))))) (pss_one (ps_ret pe_bl)) pss_nil) (pss_cons (ps_if (pt_not (pt_val (pe_cal C_law_same (hr.mono (by decide)) (by rfl) (pa_cons (pe_me N_System_behind (pv 0) (hr.mono (by decide)) (pa_cons (pv 2) (pa_cons (pe_ix ix_list (pv 3) (pv 5) (fun _ _ => rfl)) pa_nil))) (pa_cons (pe_cal C_law_behind (hr.mono (by decide)) (by rfl) (pa_cons (pv 1) (pa_cons (pv 2) (pa_cons (pe_ix ix_list (pv 3) (pv 5) (fun _ _ => rfl)) pa_nil)))) pa_nil))))) (pss_one (ps_ret pe_bl)) pss_nil) (pss_one (ps_set (i := 4) sc_k08_holds.nd rfl (.inl rfl) (pe_op o_cat (pv 4) (pe_lc (own := [("_law_k", 9)]) (by rfl) sc_k08_holds.nd (pi_range1 (by rfl) T.range (pa_cons (pe_callB call_len_seq (by rfl) T.len PySem.boot_len (pa_cons (pv 1) pa_nil)) pa_nil)) (blkOk_by (own := [("_law_k", 9)]) (N := N_k08_holds) (sc := defScope s_k08_holds) (by decide +kernel)) (fun _ _ _ _ _ => (pg_name (i := 9) sc_k08_holds.nd rfl (.inl rfl))) (fun _ _ _ _ _ => (pts_one (pt_cmpR o_notN (pe_ix ix_tup (pe_ix ix_tup (pe_ix ix_list (pv 3) (pv 5) (fun _ _ => rfl)) pe_int (fun _ _ => rfl)) (pv 9) (fun _ _ => rfl)) pe_non (nomark _)))) (fun _ _ _ _ _ => (pv 9))))))))) (pss_cons (ps_for (passes_of rfl) rfl (pi_list (pe_cal C_law_words (hr.mono (by decide)) (by rfl) (pa_cons (pv 1) pa_nil))) (pg_name (i := 6) sc_k08_holds.nd rfl (.inr rfl)) (pss_one (ps_if (pt_cmpR o_ne (pe_callB call_len_seq (by rfl) T.len PySem.boot_len (pa_cons (pe_lc (own := [("_law_move", 10)]) (by rfl) sc_k08_holds.nd (pi_list (pv 3)) (blkOk_by (own := [("_law_move", 10)]) (N := N_k08_holds) (sc := defScope s_k08_holds) (by decide +kernel)) (fun _ _ _ _ _ => (pg_name (i := 10) sc_k08_holds.nd rfl (.inl rfl))) (fun _ _ _ _ _ => (pts_one (pt_cmpR o_eq (pe_ix ix_tup (pv 10) pe_int (fun _ _ => rfl)) (pv 6) (nomark _)))) (fun _ _ _ _ _ => pe_int)) pa_nil)) (pe_cal C_law_count (hr.mono (by decide)) (by rfl) (pa_cons (pv 1) (pa_cons (pv 2) (pa_cons (pv 6) pa_nil)))) (nomark _)) (pss_one (ps_ret pe_bl)) pss_nil))) (pss_cons (ps_set (i := 7) sc_k08_holds.nd rfl (.inl rfl) (pe_me N_System_able (pv 0) (hr.mono (by decide)) (pa_cons (pv 2) pa_nil))) (pss_cons (ps_if (pt_not (pt_val (pe_cal C_law_same (hr.mono (by decide)) (by rfl) (pa_cons (pv 7) (pa_cons (pe_callB (cr_sortedSet rfl) (by rfl) T.sorted (by decide +kernel) (pa_cons (pe_callTy (cr_setI rfl) (by rfl) T.set (by decide +kernel) (pa_cons (pv 4) pa_nil)) pa_nil)) pa_nil))))) (pss_one (ps_ret pe_bl)) pss_nil) (pss_cons (ps_expr (pe_bm PySem.F.plainAttrs_list PySem.F.slot_list_append PySem.F.type_list_append mt_append (pv 7) (pa_cons pe_int pa_nil))) (pss_cons (ps_expr (pe_bm0 PySem.F.plainAttrs_list PySem.F.slot_list_reverse PySem.F.type_list_reverse mt_reverse (pv 7))) (pss_cons (ps_set (i := 8) sc_k08_holds.nd rfl (.inl rfl) (pe_me N_System_started_at (pv 0) (hr.mono (by decide)) (pa_cons (pv 2) pa_nil))) (pss_cons (ps_if (PW.pt (pw_or (pt_not (pt_val (pe_cal C_law_same (hr.mono (by decide)) (by rfl) (pa_cons (pe_fld (pv 8) rfl) (pa_cons (pv 2) pa_nil))))) (pw_or (pt_cmpR (o_neD hr) (pe_fld (pv 8) rfl) (pe_fld (pv 0) rfl) (nomark _)) (pw_or1 (pt_cmpR (o_neD hr) (pe_me N_System_moves (pv 8) (hr.mono (by decide)) (pa_cons (pv 2) pa_nil)) (pv 3) (nomark _)))))) (pss_one (ps_ret pe_bl)) pss_nil) (pss_one (ps_ret (pe_and (pe_cal C_law_same (hr.mono (by decide)) (by rfl) (pa_cons (pe_me N_System_able (pv 0) (hr.mono (by decide)) (pa_cons (pv 2) pa_nil)) (pa_cons (pe_callB (cr_sortedSet rfl) (by rfl) T.sorted (by decide +kernel) (pa_cons (pe_callTy (cr_setI rfl) (by rfl) T.set (by decide +kernel) (pa_cons (pv 4) pa_nil)) pa_nil)) pa_nil))) (pe_one (pe_cmpR (o_eqD hr) (pe_me N_System_able (pv 8) (hr.mono (by decide)) (pa_cons (pv 2) pa_nil)) (pe_me N_System_able (pv 0) (hr.mono (by decide)) (pa_cons (pv 2) pa_nil)) (nomark _)))))))))))))))), pure_k08__law_holds T.sys rfl h⟩), T._law_holds, F.kp, (FunD.bindsN F fun _ _ _ _ _ _ us hl => match us, hl with | [_, _, _], _ => rfl), .nil⟩
theorem K_law (T : Row g mg base) {fd : FuncData} (F : FunD g.K d_law.name d_law.qual d_law.params d_law.body d_law.scope [] [] (He.fAd g.K d_law.at_) fd) : FnOk g.P g.w g.K mg base (L2.CX g.P g.w) 9 (He.ga g.K "law") fd P_law (sp_k08_law g) := by
  have C_law_rows := K_C_law_rows T
  have C_law_system := K_C_law_system T
  have M_System := K_M_System T
  have C_law_standings := K_C_law_standings T
  have C_k08_holds := K_C_k08_holds T
  have N_System_moves := K_N_System_moves T
  have N_System_able := K_N_System_able T
  exact F.ok sc_law (fun vs H Q E h => by obtain ⟨_, _, rfl, _⟩ := h; rfl) (fun cdv A outer s H vs Q E hr h => ⟨t_k08_law g, (pss_cons (ps_set (i := 1) sc_law.nd rfl (.inl rfl) (pe_cal C_law_rows (hr.mono (by decide)) (by rfl) (pa_cons (pv 0) (pa_cons pe_int (pa_cons pe_int (pa_cons pe_int (pa_cons pe_int pa_nil))))))) (pss_cons (ps_set (i := 2) sc_law.nd rfl (.inl rfl) (pe_cal C_law_system (hr.mono (by decide)) (by rfl) (pa_cons (pe_ix ix_tup (pv 1) pe_int (fun _ _ => rfl)) (pa_cons (pe_ix ix_tup (pv 1) pe_int (fun _ _ => rfl)) pa_nil)))) (pss_cons (ps_set (i := 3) sc_law.nd rfl (.inl rfl) (pe_mk M_System (hr.mono (by decide)) (by rfl) (pa_cons (pe_callTy call_list_of (by rfl) T.list (by decide +kernel) (pa_cons (pe_fld (pv 2) rfl) pa_nil)) (pa_cons (pe_lst pa_nil) pa_nil)))) (pss_cons (ps_for (passes_of rfl) rfl (pi_list (pe_cal C_law_standings (hr.mono (by decide)) (by rfl) (pa_cons (pe_ix ix_tup (pv 1) pe_int (fun _ _ => rfl)) pa_nil))) (pg_name (i := 4) sc_law.nd rfl (.inl rfl)) (pss_cons (ps_if (pt_not (pt_val (pe_cal C_k08_holds (hr.mono (by decide)) (by rfl) (pa_cons (pv 2) (pa_cons (pe_ix ix_tup (pv 1) pe_int (fun _ _ => rfl)) (pa_cons (pv 4) pa_nil)))))) (pss_one (ps_ret pe_bl)) pss_nil) (pss_one (ps_if (PW.pt (pw_or (pt_cmpR (o_neD hr) (pe_me N_System_moves (pv 2) (hr.mono (by decide)) (pa_cons (pv 4) pa_nil)) (pe_me N_System_moves (pv 3) (hr.mono (by decide)) (pa_cons (pv 4) pa_nil)) (nomark _)) (pw_or1 (pt_cmpR (o_neD hr) (pe_me N_System_able (pv 2) (hr.mono (by decide)) (pa_cons (pv 4) pa_nil)) (pe_me N_System_able (pv 3) (hr.mono (by decide)) (pa_cons (pv 4) pa_nil)) (nomark _))))) (pss_one (ps_ret pe_bl)) pss_nil)))) (pss_one (ps_ret pe_bl)))))), pure_k08_law T.sys rfl h⟩)
end
abbrev R : PySem.W.OpenRow := PySem.W.OpenLaw.row PySem.Challenge.rw_surelydone_k08_whole_moves_behind_and_ab
abbrev hk : PySem.W.Hook := hookE 6 fa fn ex
def ob (s : PySem.W.SharedT) : He.AlD × Bool := obsE 6 fa fn ex (HandSHeadRun.getT s)
theorem ob_eq (s : PySem.W.SharedT) : ob s = hk.obs s.abs := obsE_eq (HandSHeadRun.getT_eq s)
abbrev loose : List Str := (["_wall", "__name__", "LETTERS", "is_integer", "is_state", "is_name", "is_row", "is_step", "DoneError", "BadState", "BadSteps", "BadHands", "BadDiligent", "BadStates", "BadMove", "TooMany", "MOST_STEPS", "MOST_LEAVING", "MOST_WORDS_hands", "MOST_STATES", "leaving", "checked_steps", "reached_states", "Hand", "MOST_HANDS", "MOST_WORDS_systems", "checked_hands", "checked_diligent", "check_standing", "step_numbers"] : List Str) ++ (["is_move", "led_to", "as_system", "joined", "System", "_law_cell", "_law_pool", "_law_draw", "_law_name", "_law_names", "_law_steps", "_law_hand", "_law_rows", "_law_system", "_law_words", "_law_numbers", "_law_behind", "_law_same", "_law_reached", "_law_standings", "_law_count", "_law_is_right", "_law_holds"] : List Str)
theorem run (w : World) : HandSHeadRun.RunEq R (PySem.W.view R.prog [57]) hk ob 9000 loose w := by
  intro os
  kernel_rfl
theorem facts {P : Program} {w : World} {K : PySem.W.Frag} {h : Heap} {mg : Str → Option Value} {f : Addr} (X : K.In h) (G : h.Ns mainGlobals mg) (hfa : mg ("law" : Str) = some (.ref f)) (c : SaysE fa fn ex K) :
    ∃ fd : FuncData, (∀ (s : Shared) (v : Value), BindsTo s fd ⟨[v], []⟩ [("_law_script", v)]) ∧ ∀ base : Heap, K.In base → base.Ns mainGlobals mg → FnOk P w K mg base (L2.CX P w) 9 f fd P_law (sp_k08_law ⟨K, P, w⟩) := by
  obtain ⟨fd, F⟩ := c.d.def_ 45 (d := d_law) rfl
  have e := hfa.symm.trans (He.glo_ok X G (c.d.fact 76 (f := .glo "law") rfl))
  cases e
  have b := FunD.bindsA (ps := P_law) F fun _ _ _ _ _ _ us hl => match us, hl with | [_], _ => rfl
  exact ⟨fd, fun s v => b s [v] rfl, fun base hb gb => K_law (g := ⟨K, P, w⟩) ⟨c, hb, gb⟩ F⟩
end K08R
open PySem PySem.W PySem.Calls PyProof.Rows
theorem PySem.Challenge.cw_surelydone_k08_whole_moves_behind_and_ab_holds : PySem.Challenge.rw_surelydone_k08_whole_moves_behind_and_ab.Holds := by
  w_on; o_law
  refine HandSHeadRun.head_any (r := OpenLaw.row PySem.Challenge.rw_surelydone_k08_whole_moves_behind_and_ab) (q := view (OpenLaw.row PySem.Challenge.rw_surelydone_k08_whole_moves_behind_and_ab).prog [57]) (H := K08R.hk) (ob := K08R.ob) (M := 9000) (loose := K08R.loose) (d := HandSHeadRun.topDef (OpenLaw.row PySem.Challenge.rw_surelydone_k08_whole_moves_behind_and_ab).prog 57) (kwd := []) K08R.ob_eq
    (by kernel_rfl) (fun s => by kernel_rfl) K08R.run (by kernel_rfl) (by kernel_rfl) (by kernel_rfl) (by rfl) (by first | assumption | decide +kernel) (by decide +kernel) ⟨rfl, rfl, rfl, rfl, rfl, by decide +kernel⟩ ?hw ?hc
  case hw => w_witness2
  case hc =>
    refine Sd.walkW (l := PySem.Challenge.rw_surelydone_k08_whole_moves_behind_and_ab) (n := 63) (k := 9) (x := "_law_script") rfl (by decide) (by kernel_rfl) ⟨rfl, by decide, by decide⟩ ?F
    intro w mg fa h Y G hmg0
    obtain ⟨K, KX, c⟩ := Y
    have hmg : mg ("law" : PySem.Str) = some (.ref fa) := by
      have e : (HandSHeadRun.topDef (OpenLaw.row PySem.Challenge.rw_surelydone_k08_whole_moves_behind_and_ab).prog 57).name = ("law" : PySem.Str) := by kernel_rfl
      rw [← e]
      exact hmg0
    obtain ⟨fd, hb, hF⟩ := K08R.facts (P := (PySem.Challenge.rw_surelydone_k08_whole_moves_behind_and_ab).prog) (w := w) KX G hmg c
    exact ⟨K, fd, Sd.sp_k08_law ⟨K, (PySem.Challenge.rw_surelydone_k08_whole_moves_behind_and_ab).prog, w⟩, KX, hb, fun H a ns hl hbt hS => ⟨a, ns, rfl, hS, hl, fun _ => rfl⟩, hF⟩
