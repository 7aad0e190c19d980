import PyProof.Rows.All
import Wide.All
import OpenK.AllK
import Wide.FinOn
import HandS.ForMost
import HandS.SetKeys
import HandS.SetFor
import HandS.TupAny
import HandS.IsInst
import HandS.Wide
import HandS.DictComp
import HandS.Strs
import HandS.More
import HandS.Conv
import HandS.Style
import HandS.Walk
import HandS.Zip
import KE.GoesEnum
import KE.KRevSl
import HandS.Dict
import KE.DataMinMax
import HandS.Exc
import HandS.Words
import HandS.Defaults
import KE.KDictZip
import PyProof.ZipIter
import PyProof.EnumIter
import PyProof.Draws
import HandS.SortInts
import HandS.HeadEnd
import HandS.List
import PyProof.ReprRoads
import PyProof.Rows.SortShellAny
import PyProof.Rows.SortStr
import PyProof.Rows.SortWalk
import PyProof.WalkInts
import KE.LtSeq
import PyProof.FactsAll.list_3
import PyProof.EqKinds
import HandS.DictEq
import HandS.ListItems
import KE.KStateDown
import Lean
import HandS.Head0
import HandS.Head1
import HandS.Head2
import HandS.HeadHook1
import HandS.HeadHook2
import PySem.Challenge.RW_openlane_k01_sizes_numbers_replay
set_option Elab.async false
set_option linter.all false
set_option maxRecDepth 100000
set_option maxHeartbeats 4000000
/-! own: sets of keys made out of a list or a tuple; what stands in them is told by a list of distinct keys, and they can be walked -/
namespace Ol
open PySem PySem.Spec PyProof.Rows L2
section
variable {P : Program} {w : World} {κ : Type} [DecidableEq κ] {knd : PySem.KeyKind P w κ}
def memb {κ : Type} [DecidableEq κ] (ks : List κ) (k : κ) : Bool := decide (k ∈ ks)
/-- one entry of the table stands for one key -/
def Ent (knd : PySem.KeyKind P w κ) (e : Int × Value) (k : κ) : Prop := (knd.is k e.2 = true ∧ e.1 = knd.hash k) ∧ e.2.scannable = true
/-- the set at a holds the distinct keys ks -/
def Sg (knd : PySem.KeyKind P w κ) (h : Heap) (a : Addr) (ks : List κ) : Prop :=
  ∃ ob es ep t ls, h.get? a = some ob ∧ ob.ExactSet ∧ ob.data = .set es ep t ∧ Paired (Ent knd) es.toList ls ∧ ls.Perm ks ∧ ks.Nodup ∧ ks.length < scanBound ∧ t.fits es.size = true ∧
    Ris t.place.toList ∧ (w.params.followText "set-order" = true ∨ t.led = true)
theorem paired_perm {α β : Type} {F : α → β → Prop} {l l' : List α} (p : l'.Perm l) : ∀ {m : List β}, Paired F l m → ∃ m', Paired F l' m' ∧ m'.Perm m := by
  induction p with
  | nil => intro m hm; exact ⟨m, hm, .refl _⟩
  | cons x _ ih =>
    intro m hm
    cases hm with
    | cons r t =>
      obtain ⟨m', h1, h2⟩ := ih t
      exact ⟨_ :: m', .cons r h1, h2.cons _⟩
  | swap x y l =>
    intro m hm
    cases hm with
    | cons r t => cases t with
      | cons r2 t2 => exact ⟨_, .cons r2 (.cons r t2), .swap _ _ _⟩
  | trans _ _ ih1 ih2 =>
    intro m hm
    obtain ⟨m1, h1, p1⟩ := ih2 hm
    obtain ⟨m2, h2, p2⟩ := ih1 h1
    exact ⟨m2, h2, p2.trans p1⟩
theorem ent_elems {l : List (Int × Value)} {ks : List κ} (h : Paired (Ent knd) l ks) : ElemsOf knd l := by
  induction h with
  | nil => intro e he; cases he
  | cons r _ ih =>
    intro e he
    rcases List.mem_cons.mp he with rfl | he
    · exact ⟨⟨_, r.1⟩, r.2⟩
    · exact ih e he
theorem ent_mem {l : List (Int × Value)} {ks : List κ} (h : Paired (Ent knd) l ks) (k : κ) : k ∈ ks ↔ ∃ e ∈ l, knd.is k e.2 = true := by
  induction h with
  | nil => constructor <;> intro z <;> simp at z
  | cons r _ ih =>
    rename_i e1 k1 _ _ _
    rw [List.mem_cons, ih]
    constructor
    · rintro (rfl | ⟨e, he, q⟩)
      · exact ⟨_, List.mem_cons_self, r.1.1⟩
      · exact ⟨e, List.mem_cons_of_mem _ he, q⟩
    · rintro ⟨e, he, q⟩
      rcases List.mem_cons.mp he with rfl | he
      · exact .inl (knd.inj _ _ _ q r.1.1)
      · exact .inr ⟨e, he, q⟩
theorem Sg.keep {h h' : Heap} {a : Addr} {ks : List κ} (R : Sg knd h a ks) (k : ∀ o, h.get? a = some o → h'.get? a = some o) : Sg knd h' a ks := by
  obtain ⟨o, es, ep, t, ls, ho, r⟩ := R
  exact ⟨o, es, ep, t, ls, k o ho, r⟩
theorem Sg.size {h : Heap} {a : Addr} {ks : List κ} (R : Sg knd h a ks) : ∃ ob es ep t, h.get? a = some ob ∧ ob.ExactSet ∧ ob.data = .set es ep t ∧ t.fits es.size = true ∧ es.size = ks.length := by
  obtain ⟨o, es, ep, t, ls, ho, hx, hd, hp, pm, nd, hb, hf, _⟩ := R
  refine ⟨o, es, ep, t, ho, hx, hd, hf, ?_⟩
  rw [← Array.length_toList, hp.length, pm.length_eq]
theorem Sg.setOf {h : Heap} {a : Addr} {ks : List κ} (R : Sg knd h a ks) : h.SetOf knd a (memb ks) ks.length := by
  obtain ⟨o, es, ep, t, ls, ho, hx, hd, hp, pm, nd, hb, hf, _⟩ := R
  have hz : es.size = ks.length := by rw [← Array.length_toList, hp.length, pm.length_eq]
  refine ⟨o, es, ep, t, ho, hx, hd, ent_elems hp, fun k => ?_, by rw [hz]; exact hb, hf, hz⟩
  unfold memb
  rw [decide_eq_true_eq, ← pm.mem_iff]
  exact ent_mem hp k
end
section
variable {P : Program} {w : World} {κ : Type} [DecidableEq κ] {knd : PySem.KeyKind P w κ} {A : Around} {E : Value → Shared → Prop} {s : Shared} {a : Addr} {ks : List κ}
/-- the table is stored, once, or twice where it has become too full -/
theorem sg_stored {gave : Bool → Sem Unit} (hgv : ∀ (b : Bool) (s1 : Shared) (R : Unit → Shared → Prop), R () s1 → wpAny (model P w) A (gave b) R E s1)
    {ob : Obj} {es : Array (Int × Value)} {ep : Nat} {t : SetTable} (ho : s.heap.get? a = some ob) (hx : ob.ExactSet) (hd : ob.data = .set es ep t)
    {es1 : Array (Int × Value)} {t1 : SetTable} {ls : List κ} (hp : Paired (Ent knd) es1.toList ls) (pm : ls.Perm ks) (nd : ks.Nodup) (hb : ks.length < scanBound)
    (hf : t1.fits es1.size = true) (hr : Ris t1.place.toList) (hl : w.params.followText "set-order" = true ∨ t1.led = true) {dummy : Bool} {R : Option Bool → Shared → Prop}
    (q : ∀ h', Heap.SameBut a s.heap h' → Sg knd h' a ks → R (some true) { s with heap := h' }) :
    wpAny (model P w) A (do
        storeSet a es1 t1
        if (!dummy && t1.tooFull) = true then do
            gave (relayAll t1 es1 (SetTable.grown es1.size)).2.2
            storeSet a (relayAll t1 es1 (SetTable.grown es1.size)).1 (relayAll t1 es1 (SetTable.grown es1.size)).2.1
            pure (some true)
          else pure (some true)) R E s := by
  have z1 : es1.size = ks.length := by rw [← Array.length_toList, hp.length, pm.length_eq]
  refine wpAny_bind (wpAny_storeSet_of ho hd ?_ (fits_of_scanBound (by rw [z1]; exact hb)))
  have g1 := store_at (es' := es1) (t' := t1) ho hd
  have b1 := Heap.SameBut.update s.heap a (Obj.putSet es1 t1)
  split
  · obtain ⟨ls2, hp2, pm2⟩ := paired_perm (relayAll_perm t1 es1 (SetTable.grown es1.size)) hp
    have f2 := relayAll_fits t1 es1 (SetTable.grown es1.size)
    have r2 := relayAll_ris t1 es1 (SetTable.grown es1.size)
    have l2 := relayAll_led t1 es1 (SetTable.grown es1.size)
    revert hp2 f2 r2 l2
    generalize relayAll t1 es1 (SetTable.grown es1.size) = Y
    intro hp2 f2 r2 l2
    refine wpAny_bind (hgv _ _ _ ?_)
    have z2 : Y.1.size = ks.length := by rw [← Array.length_toList, hp2.length, pm2.length_eq, pm.length_eq]
    refine wpAny_bind (wpAny_storeSet_of g1 rfl ?_ (fits_of_scanBound (by rw [z2]; exact hb)))
    have g2 := store_at (es' := Y.1) (t' := Y.2.1) g1 rfl
    exact wpAny_pure (q _ (b1.trans (Heap.SameBut.update _ a _)) ⟨_, Y.1, _, Y.2.1, ls2, g2, hx, rfl, hp2, pm2.trans pm, nd, hb, f2, r2, hl.imp id fun y => by rw [l2]; exact y⟩)
  · exact wpAny_pure (q _ b1 ⟨_, es1, _, t1, ls, g1, hx, rfl, hp, pm, nd, hb, hf, hr, hl⟩)
/-- what is in behind an addition -/
def added (ks : List κ) (k : κ) : List κ := if k ∈ ks then ks else ks ++ [k]
theorem added_len (ks : List κ) (k : κ) : (added ks k).length ≤ ks.length + 1 := by
  unfold added
  split
  · omega
  · simp
theorem sg_add {k : κ} {x : Value} (hk : knd.is k x = true) (hs : x.scannable = true) {R : Bool → Shared → Prop} (S : Sg knd s.heap a ks) (room : ks.length + 1 < scanBound)
    (q : ∀ h', Heap.SameBut a s.heap h' → Sg knd h' a (added ks k) → R (!decide (k ∈ ks)) { s with heap := h' }) :
    wpAny (model P w) A (setAddHashed a x (knd.hash k)) R E s := by
  obtain ⟨ob, es, ep, t, ls, ho, hx, hd, hp, pm, nd, hb, hf, hr, hl⟩ := id S
  have z : es.size = ks.length := by rw [← Array.length_toList, hp.length, pm.length_eq]
  have el : ElemsOf knd es.toList := ent_elems hp
  unfold setAddHashed setAddHashedIn
  refine wpAny_holding (wpAny_bind (wpAny_setState_of ho hd hf ?_))
  dsimp only
  rw [byScan_of hs (by rw [z]; exact hb) el]
  simp only [↓reduceIte]
  unfold setAddByScan
  refine wpAny_bind ?_
  refine wpAny_bind (wpAny_rule (wpAny_bind (wpAny_setScan_of hk ho hd hf el ?_)))
  by_cases hin : k ∈ ks
  · obtain ⟨e, he, qe⟩ := (ent_mem hp k).mp (pm.mem_iff.mpr hin)
    cases hfi : List.findIdx? (fun e => knd.is k e.2) es.toList with
    | none => exact absurd (List.findIdx?_eq_none_iff.mp hfi e he) (by rw [qe]; simp)
    | some j =>
      refine wpAny_pure (wpAny_pure ?_)
      have y := q s.heap (Heap.SameBut.refl a s.heap) (by unfold added; rw [if_pos hin]; exact S)
      rw [decide_eq_true hin] at y
      exact y
  · have hfi : List.findIdx? (fun e => knd.is k e.2) es.toList = none := by
      rw [List.findIdx?_eq_none_iff]
      intro e he
      cases y : knd.is k e.2 with
      | false => rfl
      | true => exact absurd (pm.mem_iff.mp ((ent_mem hp k).mpr ⟨e, he, y⟩)) hin
    rw [hfi]
    dsimp only
    have y := q
    rw [decide_eq_false hin] at y
    have ea : added ks k = ks ++ [k] := by unfold added; rw [if_neg hin]
    rw [ea] at y
    have nd' : (ks ++ [k]).Nodup := by
      rw [List.nodup_append]
      refine ⟨nd, by simp, fun u hu v hv => ?_⟩
      rw [List.mem_singleton] at hv
      intro e
      subst hv
      exact hin (e ▸ hu)
    have hb' : (ks ++ [k]).length < scanBound := by rw [List.length_append]; exact room
    have gw : ∀ (b : Bool) {s1 : Shared} {R' : Unit → Shared → Prop}, R' () s1 → wpAny (model P w) A (match b with | true => rule "set.scan.the-table-gave-way" | false => pure ()) R' E s1 :=
      fun b _ _ z => by cases b <;> first | exact wpAny_pure z | exact wpAny_rule z
    obtain ⟨ls1, hp1, pm1⟩ := paired_perm (F := Ent knd) (layNew_perm t es (knd.hash k) x) (m := ls ++ [k]) (by
      rw [Array.toList_push]
      have app : ∀ {l : List (Int × Value)} {m : List κ}, Paired (Ent knd) l m → Paired (Ent knd) (l ++ [(knd.hash k, x)]) (m ++ [k]) := fun h => by
        induction h with
        | nil => exact .cons ⟨⟨hk, rfl⟩, hs⟩ .nil
        | cons r _ ih => exact .cons r ih
      exact app hp)
    have f1 := layNew_fits t es (knd.hash k) x
    have r1 := layNew_ris t es (knd.hash k) x hr
    have l1 := layNew_led t es (knd.hash k) x
    revert hp1 f1 r1 l1
    generalize layNew t es (knd.hash k) x = Y
    obtain ⟨es1, t1, dummy, gv⟩ := Y
    intro hp1 f1 r1 l1
    dsimp only at hp1 f1 r1 l1 ⊢
    have pm2 : ls1.Perm (ks ++ [k]) := pm1.trans (pm.append_right _)
    have led1 : w.params.followText "set-order" = true ∨ t1.led = true := hl.imp id fun c => by rw [l1]; exact c
    refine wpAny_bind (gw _ ?_)
    split
    · refine wpAny_bind ?_
      rw [hashByValue_scannable 8 hs]
      refine wpAny_pure ?_
      refine sg_stored (hgv := ?g1) ho hx hd hp1 pm2 nd' hb' ?f1 ?r1 ?l1 fun h' sb R' => ?_
      case g1 => intro b s1 R' c; cases b <;> first | exact wpAny_pure c | exact wpAny_rule c
      case f1 => first | (split <;> first | exact f1 | exact SetTable.fits_plain_off f1) | exact f1
      case r1 => first | (split <;> exact r1) | exact r1
      case l1 => first | (split <;> exact led1) | exact led1
      dsimp only
      exact wpAny_pure (y h' sb R')
    · refine wpAny_bind (wpAny_pure ?_)
      simp only [↓reduceIte]
      refine sg_stored (hgv := ?g1) ho hx hd hp1 pm2 nd' hb' f1 r1 led1 fun h' sb R' => ?_
      case g1 => intro b s1 R' c; cases b <;> first | exact wpAny_pure c | exact wpAny_rule c
      dsimp only
      exact wpAny_pure (y h' sb R')
/-- the distinct ones, in order of their first place -/
def dist (ks : List κ) : List κ := ks.foldl added []
theorem dist_snoc (ks : List κ) (k : κ) : dist (ks ++ [k]) = added (dist ks) k := by unfold dist; rw [List.foldl_append]; rfl
theorem dist_len_aux : ∀ (ks acc : List κ), (ks.foldl added acc).length ≤ acc.length + ks.length
  | [], acc => by simp
  | k :: ks, acc => by
    have h := dist_len_aux ks (added acc k)
    have h2 := added_len acc k
    rw [List.foldl_cons, List.length_cons]
    omega
theorem dist_len (ks : List κ) : (dist ks).length ≤ ks.length := by
  have h := dist_len_aux ks []
  simpa [dist] using h
theorem mem_added {ks : List κ} {k j : κ} : j ∈ added ks k ↔ j ∈ ks ∨ j = k := by
  unfold added
  split
  · rename_i h
    exact ⟨.inl, fun z => z.elim id fun e => e ▸ h⟩
  · rw [List.mem_append, List.mem_singleton]
theorem mem_dist_aux : ∀ (ks acc : List κ) (j : κ), j ∈ ks.foldl added acc ↔ j ∈ acc ∨ j ∈ ks
  | [], acc, j => by simp
  | k :: ks, acc, j => by
    rw [List.foldl_cons, mem_dist_aux ks, mem_added, List.mem_cons, or_assoc]
theorem mem_dist {ks : List κ} {j : κ} : j ∈ dist ks ↔ j ∈ ks := by
  unfold dist
  rw [mem_dist_aux]
  simp
theorem nodup_added {ks : List κ} {k : κ} (h : ks.Nodup) : (added ks k).Nodup := by
  unfold added
  split
  · exact h
  · rename_i hn
    rw [List.nodup_append]
    refine ⟨h, by simp, fun u hu v hv => ?_⟩
    rw [List.mem_singleton] at hv
    intro e
    subst hv
    exact hn (e ▸ hu)
theorem nodup_dist_aux : ∀ (ks acc : List κ), acc.Nodup → (ks.foldl added acc).Nodup
  | [], _, h => h
  | _ :: ks, _, h => nodup_dist_aux ks _ (nodup_added h)
theorem nodup_dist (ks : List κ) : (dist ks).Nodup := nodup_dist_aux ks [] List.nodup_nil
theorem dist_nodup_aux : ∀ (ks acc : List κ), (acc ++ ks).Nodup → ks.foldl added acc = acc ++ ks
  | [], acc, _ => by simp
  | k :: ks, acc, h => by
    have hk : k ∉ acc := fun z => by
      rw [List.nodup_append] at h
      exact h.2.2 k z k List.mem_cons_self rfl
    have e : added acc k = acc ++ [k] := by unfold added; rw [if_neg hk]
    rw [List.foldl_cons, e, dist_nodup_aux ks]
    · simp
    · simpa using h
theorem dist_of_nodup {ks : List κ} (h : ks.Nodup) : dist ks = ks := by
  have e := dist_nodup_aux ks [] (by simpa using h)
  simpa [dist] using e
theorem dist_len_eq_aux : ∀ (ks acc : List κ), acc.Nodup → (ks.foldl added acc).length = acc.length + ks.length → (acc ++ ks).Nodup
  | [], acc, h, _ => by simpa using h
  | k :: ks, acc, h, e => by
    rw [List.foldl_cons] at e
    have h1 := dist_len_aux ks (added acc k)
    have h2 := added_len acc k
    rw [List.length_cons] at e
    have h3 : (added acc k).length = acc.length + 1 := by omega
    have hk : k ∉ acc := fun z => by
      unfold added at h3
      rw [if_pos z] at h3
      omega
    have e1 : added acc k = acc ++ [k] := by unfold added; rw [if_neg hk]
    have h4 := dist_len_eq_aux ks (added acc k) (nodup_added h) (by omega)
    rw [e1] at h4
    simpa using h4
theorem dist_len_eq {ks : List κ} : (dist ks).length = ks.length ↔ ks.Nodup := by
  constructor
  · intro h
    have z := dist_len_eq_aux ks [] List.nodup_nil (by simpa [dist] using h)
    simpa using z
  · intro h
    rw [dist_of_nodup h]
end
end Ol
set_option Elab.async false
set_option linter.all false
set_option maxRecDepth 100000
set_option maxHeartbeats 4000000
/-! own: set(xs) of a list or tuple of keys -/
namespace Ol
open PySem PySem.Spec PyProof.Rows L2
section
variable {P : Program} {w : World} {κ : Type} [DecidableEq κ] {knd : PySem.KeyKind P w κ} {A : Around} {E : Value → Shared → Prop} {s : Shared}
theorem sg_loop {it : Addr} {fp wr : List Addr} {G : Array GenState → Array GenState → Prop} {n : Nat} {Pv : Nat → Value → Prop} {St : Nat → Shared → Prop} {R : Result → Shared → Prop}
    (W : WalksS P w A.in1 it fp wr G n Pv St) (a : Addr) (ha : a ∉ fp) (ks : List κ) (hn : n = ks.length) (hb : ks.length + 1 < scanBound)
    (hv : ∀ i v, Pv i v → ∃ k, ks[i]? = some k ∧ knd.is k v = true ∧ v.scannable = true) (m : Nat) :
    ∀ (i : Nat) (s : Shared), n - i = m → i ≤ n → St i s → Sg knd s.heap a (dist (ks.take i)) →
      (∀ s', Moved (a :: wr) G s s' → Sg knd s'.heap a (dist ks) → R (.ok (.ret .none)) s') →
      codeAny (model P w) A (.builtin "set.update.loop" ⟨[.ref a, .ref it], []⟩) R s := by
  have haw : a ∉ wr := fun z => ha (W.sub _ z)
  have sub : ∀ b ∈ wr, b ∈ a :: wr := fun b z => List.mem_cons_of_mem _ z
  induction m with
  | zero =>
    intro i s hm hi st S q
    have ei : ks.take i = ks := List.take_of_length_le (by omega)
    have ein : i = n := by omega
    rw [ei] at S
    subst ein
    refine codeAny_builtin F.entry_set_update_loop ?_
    rw [Around.under_plainId F.plain_set_update_loop _]
    refine wpAny_bind (m := pyNext (.ref it)) (W.done s _ _ st fun s' mv => ?_)
    exact wpAny_pure (q s' (mv.mono sub) (S.keep fun o e => mv.heap a o haw e))
  | succ m ih =>
    intro i s hm hi st S q
    have hlt : i < n := by omega
    refine codeAny_builtin F.entry_set_update_loop ?_
    rw [Around.under_plainId F.plain_set_update_loop _]
    refine wpAny_bind (m := pyNext (.ref it)) (W.item i s _ _ hlt st fun v s' hP st' mv => ?_)
    obtain ⟨k, hk, isk, sck⟩ := hv i v hP
    have S1 : Sg knd s'.heap a (dist (ks.take i)) := S.keep fun o e => mv.heap a o haw e
    have hl : (dist (ks.take i)).length ≤ i := Nat.le_trans (dist_len _) (by rw [List.length_take]; omega)
    refine wpAny_bind (m := holding [v] (setAdd a v)) (wpAny_holding ?_)
    unfold setAdd
    refine wpAny_holding (wpAny_bind (knd.pyHash (k := k) isk ?_))
    refine sg_add (s := { s' with toks := s'.toks + 1 }) isk sck S1 (by omega) fun h' sb S2 => ?_
    have e2 : added (dist (ks.take i)) k = dist (ks.take (i + 1)) := by
      rw [List.take_add_one, hk, ← dist_snoc]
      rfl
    rw [e2] at S2
    refine wpAny_pure ⟨plainId_quiet F.plain_set_update_loop _, ih (i + 1) _ (by omega) hlt (W.frame _ s' _ _ st' (Nat.le_succ _) fun b hb o e => ?_) S2 fun s2 mv2 S3 => ?_⟩
    · rw [sb.2 b (fun z => ha (z ▸ hb))]; exact e
    · refine q s2 (Moved.trans W.gtrans ((mv.mono sub).then_heap (Nat.le_succ _) fun b o hb e => ?_) mv2) S3
      rw [sb.2 b (fun z => hb (z ▸ List.mem_cons_self))]; exact e
/-- an empty set as it is made -/
def freshSet (w : World) : Obj := { cls := .type "set", dict := none, data := .set #[] 0 (.fresh 0 0 (!w.params.followText "set-order")) }
theorem sg_fresh {h : Heap} {a : Addr} (e : h.get? a = some (freshSet w)) : Sg knd h a [] :=
  ⟨_, #[], 0, _, [], e, ⟨rfl, rfl, rfl⟩, rfl, .nil, .refl _, List.nodup_nil, (by show (0 : Nat) < scanBound; decide), by rfl, List.Pairwise.nil, by
    cases w.params.followText "set-order"
    · exact .inr rfl
    · exact .inl rfl⟩
/-- what set(x) comes to, x a list or a tuple of keys -/
def SetEnd (knd : PySem.KeyKind P w κ) (s : Shared) (ks : List κ) (Q : Value → Shared → Prop) : Prop :=
  ∀ (h' : Heap) (tk : Nat), Sg knd h' s.heap.objs.size (dist ks) → (∀ b o, s.heap.get? b = some o → h'.get? b = some o) → Q (.ref s.heap.objs.size) { s with heap := h', toks := tk }
/-- what the rest of a call wants of a built-in's tree -/
abbrev FinOf (P : Program) (w : World) (A : Around) (R : Result → Shared → Prop) : Fin → Shared → Prop := fun fin s' => match fin with
  | .done f => R (.ok f) s'
  | .again c' => c'.quiet = true ∧ codeAny (model P w) A c' R s'
set_option maxHeartbeats 4000000 in
theorem set_call {v : Value} {Q : Value → Shared → Prop} {G : Heap → Nat → Prop}
    (hin : ∀ R : Result → Shared → Prop, (∀ h' tk, G h' tk → R (.ok (.ret .none)) { s with heap := h', toks := tk }) →
      wpAny (model P w) A.in1.in1 (Builtin.«set.__init__» ⟨[.ref s.heap.objs.size, v], []⟩) (FinOf P w A.in1 R) (fun e s' => R (.error e) s') { s with heap := s.heap.push (freshSet w) })
    (q : ∀ h' tk, G h' tk → Q (.ref s.heap.objs.size) { s with heap := h', toks := tk }) :
    wpAny (model P w) A (call (.type "set") [v]) Q E s := by
  obtain ⟨c, tl, k1⟩ := PySem.F.called_set.mro
  have k2 := PySem.F.called_set.made
  have k3 := PySem.F.called_set.sub
  have k4 := PySem.F.called_set.notType
  have k5 := PySem.F.called_set.canCreate
  have k6 := PySem.F.typeCall_set_1 v
  have at0 : (s.heap.push (freshSet w)).get? s.heap.objs.size = some (freshSet w) := Heap.get?_push_size _ rfl
  have ty0 : Shared.TypeIs { s with heap := s.heap.push (freshSet w) } (.ref s.heap.objs.size) "set" := ⟨_, at0, rfl⟩
  refine wpAny_call (codeAny_of_tree (show wpAny _ _ (callAny (.type "set") _) _ _ _ from wpAny_pure ⟨Code.quiet_builtin _ (by decide +kernel), codeAny_builtin PySem.F.entry_type_call ?_⟩))
  rw [Around.under_plain (weight_type_call_type "set" [v] []) rfl]
  repeat (any_goals (first | assumption | wp_step))
  refine codeAny_mono (code_set_led1 v (E := E) (Q₁ := fun ob s1 => ob = .ref s.heap.objs.size ∧ s1 = { s with heap := s.heap.push (freshSet w) }) ⟨rfl, rfl⟩) fun r s1 hr => ?_
  cases r with
  | error e => exact hr
  | ok fl =>
    cases fl with
    | ret ob =>
      obtain ⟨rfl, rfl⟩ := hr
      have k7 := PySem.F.called_set.init.lookup
      have k8 := PySem.F.called_set.init.bind (.ref s.heap.objs.size)
      repeat (any_goals (first | assumption | wp_step))
      refine codeAny_mono (codeAny_call_builtin (R := wants (fun r s2 => r = .none ∧ ∃ h' tk, s2 = { s with heap := h', toks := tk } ∧ G h' tk) E)
        PySem.F.called_set.init.plain PySem.F.entry_set_init (check_set_init_1 ty0 ?_)) fun r2 s2 hr2 => ?_
      · exact hin (wants (fun r s2 => r = .none ∧ ∃ h' tk, s2 = { s with heap := h', toks := tk } ∧ G h' tk) E) fun h' tk g => ⟨rfl, h', tk, rfl, g⟩
      · cases r2 with
        | error e => exact hr2
        | ok fl2 =>
          cases fl2 with
          | ret r =>
            obtain ⟨rfl, h', tk, rfl, g⟩ := hr2
            repeat (any_goals (first | assumption | wp_step))
            exact q _ _ g
          | _ => exact hr2.elim
    | _ => exact hr.elim
theorem set_of_tuple {l : Addr} {items : Array Value} (ks : List κ) {Q : Value → Shared → Prop} (hh : A.handled = none) (hl : s.heap.IsTuple l items) (hz : items.size = ks.length) (hb : ks.length + 1 < scanBound)
    (hv : ∀ (i : Nat) v, items[i]? = some v → ∃ k, ks[i]? = some k ∧ knd.is k v = true ∧ v.scannable = true) (q : SetEnd knd s ks Q) :
    wpAny (model P w) A (call (.type "set") [.ref l]) Q E s := by
  refine set_call (G := fun h' _ => Sg knd h' s.heap.objs.size (dist ks) ∧ ∀ b o, s.heap.get? b = some o → h'.get? b = some o) (fun R hR => ?_) fun h' tk g => q h' tk g.1 g.2
  have old : ∀ b o, s.heap.get? b = some o → (s.heap.push (freshSet w)).get? b = some o := fun b o e => Heap.get?_push_of_some _ e
  have at0 : (s.heap.push (freshSet w)).get? s.heap.objs.size = some (freshSet w) := Heap.get?_push_size _ rfl
  have l0 : (s.heap.push (freshSet w)).IsTuple l items := let ⟨o, e, r⟩ := hl; ⟨o, old _ _ e, r⟩
  have lt : l < s.heap.objs.size := let ⟨o, e, r⟩ := hl; Heap.lt_size e
  obtain ⟨ol, hol, hcl, nl, hdl⟩ := id l0
  obtain ⟨ocls, odict, odata, oslots⟩ := ol
  simp only at hcl hdl
  subst hcl
  subst hdl
  have j1 := PySem.F.sub_tuple_set
  have j2 := PySem.F.sub_tuple_frozenset
  have j3 : (Value.type "tuple" == Value.type "dict") = false := by decide
  unfold Builtin.«set.__init__» noKeywords Builtin.Frozenset.updateFrom
  generalize hI : pyIter = it0
  wp_walk
  subst hI
  refine wpAny_pyIter_tuple l0 (wpAny_bind (wpAny_runValue ?_))
  have n1 : (s.heap.push (freshSet w)).objs.size = s.heap.objs.size + 1 := Heap.size_push ..
  have n2 : l ≠ (s.heap.push (freshSet w)).objs.size := by rw [n1]; exact Nat.ne_of_lt (Nat.lt_succ_of_lt lt)
  have n3 : s.heap.objs.size ∉ [(s.heap.push (freshSet w)).objs.size, l] := fun z => by
    rcases List.mem_cons.mp z with z | z
    · rw [n1] at z; exact absurd z (Nat.ne_of_lt (Nat.lt_succ_self _))
    · exact absurd (List.mem_singleton.mp z) (Nat.ne_of_gt lt)
  refine sg_loop (knd := knd) ((Walks.tuple (show A.in1.in1.in1.handled = none from hh) _ l n2 items).toS) s.heap.objs.size n3 ks hz hb hv (items.size - 0) 0 _ (by omega) (Nat.zero_le _)
    ⟨⟨_, Heap.get?_push_size _ rfl, rfl, rfl⟩, l0.push _⟩ ?_ fun s' mv S => ?_
  · exact sg_fresh (Heap.get?_push_of_some _ at0)
  · obtain ⟨h', g', d', t', os'⟩ := s'
    have e1 : g' = s.gens := mv.gens
    have e2 : d' = s.drawn := mv.drawn
    have e3 : os' = s.os := mv.os
    subst e1; subst e2; subst e3
    refine wpAny_pure ?_
    show wpAny _ _ (ret Value.none) _ _ _
    refine wpAny_pure (hR h' t' ⟨S, fun b o e => ?_⟩)
    have lb : b < s.heap.objs.size := Heap.lt_size e
    refine mv.heap b o (fun z => ?_) (Heap.get?_push_of_some _ (old _ _ e))
    rcases List.mem_cons.mp z with z | z
    · exact absurd z (Nat.ne_of_lt lb)
    · have z2 := List.mem_singleton.mp z
      rw [n1] at z2
      exact absurd lb (by rw [z2]; exact Nat.not_lt_of_le (Nat.le_succ _))
theorem set_of_list {l : Addr} {items : Array Value} (ks : List κ) {Q : Value → Shared → Prop} (hh : A.handled = none) (hl : s.heap.IsList l items) (hz : items.size = ks.length) (hb : ks.length + 1 < scanBound)
    (hv : ∀ (i : Nat) v, items[i]? = some v → ∃ k, ks[i]? = some k ∧ knd.is k v = true ∧ v.scannable = true) (q : SetEnd knd s ks Q) :
    wpAny (model P w) A (call (.type "set") [.ref l]) Q E s := by
  refine set_call (G := fun h' _ => Sg knd h' s.heap.objs.size (dist ks) ∧ ∀ b o, s.heap.get? b = some o → h'.get? b = some o) (fun R hR => ?_) fun h' tk g => q h' tk g.1 g.2
  have old : ∀ b o, s.heap.get? b = some o → (s.heap.push (freshSet w)).get? b = some o := fun b o e => Heap.get?_push_of_some _ e
  have at0 : (s.heap.push (freshSet w)).get? s.heap.objs.size = some (freshSet w) := Heap.get?_push_size _ rfl
  have l0 : (s.heap.push (freshSet w)).IsList l items := let ⟨o, e, r⟩ := hl; ⟨o, old _ _ e, r⟩
  have lt : l < s.heap.objs.size := let ⟨o, e, r⟩ := hl; Heap.lt_size e
  obtain ⟨ol, hol, hcl, nl, hdl⟩ := id l0
  obtain ⟨ocls, odict, odata, oslots⟩ := ol
  simp only at hcl hdl
  subst hcl
  subst hdl
  have j1 := PySem.F.sub_list_set
  have j2 := PySem.F.sub_list_frozenset
  have j3 : (Value.type "list" == Value.type "dict") = false := by decide
  unfold Builtin.«set.__init__» noKeywords Builtin.Frozenset.updateFrom
  generalize hI : pyIter = it0
  wp_walk
  subst hI
  refine wpAny_pyIter_list l0 (wpAny_bind (wpAny_runValue ?_))
  have n1 : (s.heap.push (freshSet w)).objs.size = s.heap.objs.size + 1 := Heap.size_push ..
  have n2 : l ≠ (s.heap.push (freshSet w)).objs.size := by rw [n1]; exact Nat.ne_of_lt (Nat.lt_succ_of_lt lt)
  have n3 : s.heap.objs.size ∉ [(s.heap.push (freshSet w)).objs.size, l] := fun z => by
    rcases List.mem_cons.mp z with z | z
    · rw [n1] at z; exact absurd z (Nat.ne_of_lt (Nat.lt_succ_self _))
    · exact absurd (List.mem_singleton.mp z) (Nat.ne_of_gt lt)
  refine sg_loop (knd := knd) ((Walks.list (show A.in1.in1.in1.handled = none from hh) _ l n2 items).toS) s.heap.objs.size n3 ks hz hb hv (items.size - 0) 0 _ (by omega) (Nat.zero_le _)
    ⟨⟨_, Heap.get?_push_size _ rfl, rfl, rfl⟩, l0.push _⟩ ?_ fun s' mv S => ?_
  · exact sg_fresh (Heap.get?_push_of_some _ at0)
  · obtain ⟨h', g', d', t', os'⟩ := s'
    have e1 : g' = s.gens := mv.gens
    have e2 : d' = s.drawn := mv.drawn
    have e3 : os' = s.os := mv.os
    subst e1; subst e2; subst e3
    refine wpAny_pure ?_
    show wpAny _ _ (ret Value.none) _ _ _
    refine wpAny_pure (hR h' t' ⟨S, fun b o e => ?_⟩)
    have lb : b < s.heap.objs.size := Heap.lt_size e
    refine mv.heap b o (fun z => ?_) (Heap.get?_push_of_some _ (old _ _ e))
    rcases List.mem_cons.mp z with z | z
    · exact absurd z (Nat.ne_of_lt lb)
    · have z2 := List.mem_singleton.mp z
      rw [n1] at z2
      exact absurd lb (by rw [z2]; exact Nat.not_lt_of_le (Nat.le_succ _))
end
end Ol
set_option Elab.async false
set_option linter.all false
set_option maxRecDepth 100000
set_option maxHeartbeats 4000000
/-! own: set(xs), len(set), sorted(set of texts) over the layer -/
namespace Ol
open PySem PySem.Spec PyProof.Rows L2
/-- a set of keys that can be walked -/
def SetQ (P : Program) (w : World) (a : Addr) (ks : List Key) : HO := .ext fun h => Sg (mixKind P w) h a ks
theorem setQ_ok {P : Program} {w : World} {H : Hp} {h : Heap} {a : Addr} {ks : List Key} (R : Sg (mixKind P w) h a ks) : ObjOk P w H h a (SetQ P w a ks) := by
  obtain ⟨ob, es, ep, t, ls, ho, r⟩ := id R
  exact ⟨R, ⟨ob, ho⟩, fun h1 h2 p k => Sg.keep p k⟩
theorem paired_flip {α β : Type} {F : α → β → Prop} : ∀ {l : List α} {m : List β}, Paired F l m → Paired (fun b a => F a b) m l
  | _, _, .nil => .nil
  | _, _, .cons r t => .cons r (paired_flip t)
theorem paired_perm2 {α β : Type} {F : α → β → Prop} {m m' : List β} (p : m'.Perm m) {l : List α} (h : Paired F l m) : ∃ l', Paired F l' m' ∧ l'.Perm l := by
  obtain ⟨l', h1, h2⟩ := paired_perm p (paired_flip h)
  exact ⟨l', paired_flip h1, h2⟩
section
variable {X : Cx}
theorem vals_keys : ∀ {ks : List Key} {us : List Value}, Vals (ks.map kV) us → ∀ (i : Nat) v, us[i]? = some v → ∃ k, ks[i]? = some k ∧ RelV (kV k) v
  | [], _, .nil, i, v, e => by simp at e
  | k :: ks, _, .cons r t, 0, v, e => by
    have e2 : _ = v := Option.some.inj (by simpa using e)
    exact ⟨k, rfl, e2 ▸ r⟩
  | k :: ks, _, .cons r t, i + 1, v, e => by
    obtain ⟨k2, h1, h2⟩ := vals_keys t i v (by simpa using e)
    exact ⟨k2, by simpa using h1, h2⟩
/-- set(x) of a list or a tuple of keys: as what can be asked and grown | as what can be walked -/
def rSetK (K : PySem.W.Frag) (P : Program) (w : World) : List V → Hp → VK → Prop := fun xs H Q => ∃ (p : Addr) (ks : List Key), xs = [.ref p] ∧ (SqL K H p (ks.map kV) ∨ SqT K H p (ks.map kV)) ∧ ks.length + 1 < scanBound ∧
  ((∀ q, H q = none → Q (.ref q) (upd H q (SetK P w q (memb ks) (dist ks).length))) ∨ (∀ q, H q = none → Q (.ref q) (upd H q (SetQ P w q (dist ks)))))
theorem cr_setK (hc : X.calm = true) : CallR X (.type "set") (rSetK X.K X.prog X.w) := by
  intro pins s σ H xs us Q I r h
  obtain ⟨p, ks, rfl, hs, hb, q⟩ := h
  rw [Vals.ref1 r]
  have fin : SetEnd (mixKind X.prog X.w) s ks (EP X pins σ Q) := fun h' tk S kp => by
    have hn := I.hok.fresh (Nat.le_refl s.heap.objs.size)
    rcases q with q | q
    · refine ⟨.ref _, _, I.laid (t' := tk) kp (Nat.le_refl _) (setK_new ?_), rfl, q _ hn⟩
      have e : memb ks = memb (dist ks) := funext fun k => decide_eq_decide.mpr mem_dist.symm
      rw [e]
      exact S.setOf
    · exact ⟨.ref _, _, I.laid (t' := tk) kp (Nat.le_refl _) (setQ_ok S), rfl, q _ hn⟩
  have hv : ∀ {its : List Value}, Vals (ks.map kV) its → ∀ (i : Nat) v, its.toArray[i]? = some v → ∃ k, ks[i]? = some k ∧ (mixKind X.prog X.w).is k v = true ∧ v.scannable = true := fun rv i v e => by
    obtain ⟨k, h1, h2⟩ := vals_keys rv i v (by simpa using e)
    exact ⟨k, h1, kV_is h2, key_scan h2⟩
  rcases hs with hs | hs
  · obtain ⟨its, rv, hl, _⟩ := I.list hs
    have hz := rv.length
    rw [List.length_map] at hz
    exact set_of_list ks (I.ok.hd hc) hl.isList (by rw [List.size_toArray]; exact hz.symm) hb (hv rv) fin
  · obtain ⟨its, rv, hl, _⟩ := I.tuple hs
    have hz := rv.length
    rw [List.length_map] at hz
    exact set_of_tuple ks (I.ok.hd hc) hl (by rw [List.size_toArray]; exact hz.symm) hb (hv rv) fin
/-- len of a set of keys -/
def rLenSet (P : Program) (w : World) : List V → Hp → VK → Prop := fun xs H Q => ∃ p S n, xs = [.ref p] ∧ H p = some (SetK P w p S n) ∧ Q (.int (n : Nat)) H
theorem call_lenSet : CallR X (.builtin "len") (rLenSet X.prog X.w) := by
  intro pins s σ H xs us Q I r h
  obtain ⟨p, S, n, rfl, ha, q⟩ := h
  rw [Vals.ref1 r]
  obtain ⟨ob, es, ep, t, ho, hx, hd, _, _, hb, hf, hn⟩ := setK_get I ha
  subst hn
  have hb1 : es.size < 4096 := hb
  exact call_len_set ho hx hd hf (by omega) ⟨.int (es.size : Nat), H, I.tok _, ⟨_, rfl⟩, q⟩
/-- sorted(s) of texts, fewer than 64 -/
def rSortedQ (P : Program) (w : World) : List V → Hp → VK → Prop := fun xs H Q => ∃ (p : Addr) (zs : List Str), xs = [.ref p] ∧ H p = some (SetQ P w p (zs.map Sum.inr)) ∧ zs.length < 64 ∧
  ∀ (ys : List Str) (q : Addr), ys.Perm zs → sortedS ys = true → H q = none → Q (.ref q) (upd H q (.lst (ys.map V.str)))
theorem strs_of_ents {P : Program} {w : World} : ∀ {es : List (Int × Value)} {zs : List Str}, Paired (Ent (mixKind P w)) es (zs.map Sum.inr) → StrsAre (es.map (·.2)) zs
  | _, [], .nil => .nil
  | _, z :: zs, .cons r t => by
    obtain ⟨tk, e⟩ := Value.isStrOf_shape (x := z) (v := _) r.1.1
    rw [List.map_cons, e]
    exact .cons z tk (strs_of_ents t)
theorem strs_perm {l l' : List Value} (p : l'.Perm l) : ∀ {zs : List Str}, StrsAre l zs → ∃ zs', StrsAre l' zs' ∧ zs'.Perm zs := by
  induction p with
  | nil => intro zs h; exact ⟨zs, h, .refl _⟩
  | cons x _ ih =>
    intro zs h
    cases h with
    | cons n t r =>
      obtain ⟨m, h1, h2⟩ := ih r
      exact ⟨n :: m, .cons n t h1, h2.cons _⟩
  | swap x y l =>
    intro zs h
    cases h with
    | cons n t r => cases r with
      | cons n2 t2 r2 => exact ⟨n2 :: n :: _, .cons n2 t2 (.cons n t r2), .swap _ _ _⟩
  | trans _ _ ih1 ih2 =>
    intro zs h
    obtain ⟨m1, h1, p1⟩ := ih2 h
    obtain ⟨m2, h2, p2⟩ := ih1 h1
    exact ⟨m2, h2, p2.trans p1⟩
theorem cr_sortedQ (hc : X.calm = true) : CallR X (.builtin "sorted") (rSortedQ X.prog X.w) := by
  intro pins s σ H xs us Q I r h
  obtain ⟨p, zs, rfl, ha, h64, q⟩ := h
  rw [Vals.ref1 r]
  obtain ⟨ob, es, ep, t, ls, ho, hx, hd, hp, pm, nd, hb, hf, hr, hl⟩ := (I.hok p _ ha).1
  have hz : es.size = zs.length := by rw [← Array.length_toList, hp.length, pm.length_eq, List.length_map]
  refine Calls.call_function_entry kind_sorted plain_sorted entry_sorted (args_sorted1 _) ?_
  unfold Builtin.«sorted»
  refine wpAny_bind (m := checkCount "sorted" 1 1 _) (wpAny_pure ?_)
  refine wpAny_bind (collect_set (A := X.A.in1) (I.ok.hd hc) ⟨ob, ho, hx.1, hd⟩ hf (by rw [hz]; simpa using hb) hr hl fun s1 vs k1 z1 g1 o1 pv => ?_)
  -- the values gathered are texts
  have hS : ∃ ws, StrsAre vs ws ∧ ws.Perm zs := by
    obtain ⟨es', hpe, hpp⟩ := paired_perm2 pm.symm hp
    exact strs_perm (pv.trans (hpp.symm.map (·.2))) (strs_of_ents hpe)
  obtain ⟨ws, hS, hw⟩ := hS
  have hvl : vs.length = zs.length := by rw [hS.length, hw.length_eq]
  refine wpAny_bind (wpAny_newList ?_ (by rw [hvl, sizeLine_eq]; omega))
  have at1 : (s1.heap.push (seqObj "list" vs.toArray 0)).get? s1.heap.objs.size = some (seqObj "list" vs.toArray 0) := Heap.get?_push_size _ rfl
  refine wpAny_bind (wpAny_holding (wpAny_call_entry PyProof.Rows.slot_list_sort ⟨_, at1, rfl⟩ PyProof.Rows.entry_list_sort
    (list_sort_treeK strKind_oneLt at1 hS.keysOf (fun v1 v2 rest e => keyKind_strs (by rw [← e]; exact hS)) (by rw [hvl]; exact h64) fun st' sp so => ⟨_, rfl, ?_⟩)
    (PyProof.Rows.args_list_sort _)))
  obtain ⟨ys, y1, y2, y3⟩ := sorted_out_str hS sp so
  obtain ⟨n', at2⟩ := PyProof.Rows.sortedHeap_at (vs := vs) (out := (arrOf st').map (·.2)) at1
  have pz : ys.Perm zs := y2.trans hw
  have hle : (ys.map V.str).length ≤ sizeLine := by rw [List.length_map, pz.length_eq]; exact small64 h64
  have old : ∀ b o, s.heap.get? b = some o → (sortedHeap (s1.heap.push (seqObj "list" vs.toArray 0)) s1.heap.objs.size vs ((arrOf st').map (·.2))).get? b = some o := fun b o e => by
    have e1 := k1 b o e
    have lt := Heap.lt_size e1
    rw [sortedHeap_old (Nat.ne_of_lt lt) (by rw [size_push']; exact Nat.lt_succ_of_lt lt)]
    exact Heap.get?_push_of_some _ e1
  have hn : H s1.heap.objs.size = none := I.hok.fresh z1
  have new : ObjOk X.prog X.w (upd H s1.heap.objs.size (.lst (ys.map V.str))) (sortedHeap (s1.heap.push (seqObj "list" vs.toArray 0)) s1.heap.objs.size vs ((arrOf st').map (·.2))) s1.heap.objs.size (.lst (ys.map V.str)) :=
    ⟨hle, ((arrOf st').map (·.2)).toList, n', vals_of_strs y1, by rw [Array.toArray_toList]; exact at2⟩
  refine wpAny_pure ⟨_, rfl, .ref s1.heap.objs.size, upd H s1.heap.objs.size (.lst (ys.map V.str)), ?_, rfl, q ys _ pz y3 hn⟩
  have J : Inv X pins σ (upd H s1.heap.objs.size (.lst (ys.map V.str))) { s with heap := sortedHeap (s1.heap.push (seqObj "list" vs.toArray 0)) s1.heap.objs.size vs ((arrOf st').map (·.2)), gens := s1.gens, drawn := s1.drawn, toks := s1.toks } :=
    I.call (ch := []) (Un.laid old z1 hn) (I.hok.laid old z1 new) (by rw [g1]; exact I.bare) (fun _ z => nomatch z)
  have e : ({ s1 with heap := sortedHeap (s1.heap.push (seqObj "list" vs.toArray 0)) s1.heap.objs.size vs ((arrOf st').map (·.2)) } : Shared) = { s with heap := sortedHeap (s1.heap.push (seqObj "list" vs.toArray 0)) s1.heap.objs.size vs ((arrOf st').map (·.2)), gens := s1.gens, drawn := s1.drawn, toks := s1.toks } := by
    rw [← o1]
  rw [e]
  exact J
end
end Ol
set_option Elab.async false
set_option linter.all false
set_option maxRecDepth 100000
set_option maxHeartbeats 4000000
/-! own: rules that serve several kinds at once, powers of great ints, enumerate of a tuple -/
namespace Ol
open PySem PySem.Spec PyProof.Rows L2
section
variable {X : Cx}
theorem OpR.or {f : Value → Value → Sem Value} {r r' : R2} (h : OpR X f r) (h' : OpR X f r') : OpR X f (fun x y H Q => r x y H Q ∨ r' x y H Q) := fun pins s σ H x y v u Q I rx ry q =>
  q.elim (h pins s σ H x y v u Q I rx ry) (h' pins s σ H x y v u Q I rx ry)
theorem CallR.or {c : Value} {r r' : List V → Hp → VK → Prop} (h : CallR X c r) (h' : CallR X c r') : CallR X c (fun xs H Q => r xs H Q ∨ r' xs H Q) := fun pins s σ H xs us Q I rx q =>
  q.elim (h pins s σ H xs us Q I rx) (h' pins s σ H xs us Q I rx)
theorem PI.or {tg it : Expr} {w1 w2 : TI} (h : PI X tg it w1) (h' : PI X tg it w2) : PI X tg it (fun σ H R => w1 σ H R ∨ w2 σ H R) :=
  ⟨fun pins s σ H R I q => q.elim (h.run pins s σ H R I) (h'.run pins s σ H R I)⟩
/-- ** of great ints by a small power -/
def CPowW (i j : Int) : Prop := 0 ≤ j ∧ (Builtin.Int.intBits i : Int) * j ≤ 2 ^ 27
theorem op_powW : OpR X (binaryOp .Pow) (rI CPowW fun i j => .int (i ^ j.toNat)) := opI fun _ _ _ _ _ _ _ hc q => pow_int hc.1 hc.2 q
end
/-! ### enumerate of a tuple -/
def Itet (K : PySem.W.Frag) (a : Addr) : It :=
  ⟨fun i H => ∃ (xs : List V) (x : V), SqT K H a xs ∧ xs[i]? = some x, fun i H v H' => ∃ T x, v = .ref T ∧ H T = none ∧ H' = upd H T (.tup [.int (i : Nat), x]) ∧ ∀ xs, SqT K H a xs → xs[i]? = some x,
    fun i H => ∃ xs : List V, SqT K H a xs ∧ xs.length = i⟩
theorem ne_enum {h : Heap} {e it a : Addr} {i : Int} {old : Value} {its : Array Value} (he : IsEnum h e it i old) (ht : h.IsTuple a its) : e ≠ a := fun z => by
  obtain ⟨o, ho, hc, _⟩ := ht
  have y : h.get? e = _ := he
  rw [z, ho] at y
  rw [Option.some.inj y] at hc
  have z2 : (Value.type "enumerate") = Value.type "tuple" := hc
  exact absurd z2 (by decide)
theorem turn_enumT {P : Program} {w : World} {K : PySem.W.Frag} {elts : List Expr} {kk : Nat} {tpos : Pos} (a e it : Addr) :
    Turn P w K (.Tuple elts kk tpos) (Itet K a) [e, it] e (fun i h => (∃ old, IsEnum h e it ((i : Nat) : Int) old) ∧ h.IsTupleIter it a i ∧ e ≠ it ∧ a ≠ it) where
  mem := List.mem_cons_self
  obj := fun i h st b hb => by
    obtain ⟨⟨old, he⟩, ⟨o, ho, hc, hd⟩, _⟩ := st
    rcases List.mem_cons.mp hb with z | z
    · exact z ▸ ⟨_, he, fun v q => nomatch q⟩
    · rw [List.mem_singleton.mp z]
      exact ⟨o, ho, fun v q => by rw [hd] at q; cases q⟩
  keep := fun i h h' st k => let ⟨⟨old, he⟩, hi, hne⟩ := st; ⟨⟨old, k e (by simp) _ he⟩, hi.at fun o q => k it (by simp) o q, hne⟩
  item := by
    intro X hP hw hK hc i pins s σ H E I hf st hg
    subst hP hw hK
    obtain ⟨⟨old, he⟩, hit, hne, hna⟩ := st
    obtain ⟨xs, x, hq, hx⟩ := hg
    obtain ⟨its, rv, p, hz⟩ := I.tuple hq
    have hlt : i < its.toArray.size := by
      have q := (List.getElem?_eq_some_iff.mp hx).1
      rw [List.size_toArray, ← rv.length]
      exact q
    have lte : e < s.heap.objs.size := Heap.lt_size he
    have ltt : it < s.heap.objs.size := by obtain ⟨_, q, _⟩ := hit; exact Heap.lt_size q
    have hea : e ∉ [it, a] := fun z => by
      rcases List.mem_cons.mp z with z | z
      · exact hne z
      · exact ne_enum he p (List.mem_singleton.mp z)
    refine wpAny_pyNext_enum_itemC (Draws.tuple (show X.A.in1.handled = none from I.ok.hd hc) it a hna its.toArray) he ⟨hit, p⟩ hlt hne hea fun u h' tk hu ho st' hT hsz hk => ?_
    obtain ⟨u', hu', ru⟩ := rv.get hx
    have eu : u = u' := Option.some.inj ((show some u = its[i]? by rw [← hu]; simp).trans hu')
    subst eu
    refine ⟨_, rfl, wpAny_letOwnedTupleGo_enum (s := { s with heap := h', toks := tk + 1 }) ho fun h2 he2 sb => ?_⟩
    have hT2 : h2.get? s.heap.objs.size = some { cls := .type "tuple", data := .seq #[.int ((i : Nat) : Int) tk, u] } := (sb.2 _ (Nat.ne_of_gt lte)).trans hT
    have new : ObjOk X.prog X.w (upd H s.heap.objs.size (.tup [.int (i : Nat), x])) h2 s.heap.objs.size (.tup [.int (i : Nat), x]) :=
      ⟨by show 2 ≤ sizeLine; decide, [.int ((i : Nat) : Int) tk, u], .cons ⟨_, rfl⟩ (.cons ru .nil), ⟨_, hT2, rfl, _, rfl⟩⟩
    have J : Inv X pins σ (upd H s.heap.objs.size (.tup [.int (i : Nat), x])) { s with heap := h2, toks := tk + 1 } :=
      I.turnedNew (ch := [e, it]) (fun b ob hb q => (sb.2 b (fun z => hb (by simp [z]))).trans (hk b ob (fun z => hb (by simp [z])) (fun z => hb (by simp [z])) q)) hf (Nat.le_refl _) new
    refine ⟨.ref s.heap.objs.size, _, J, rfl, ⟨_, x, rfl, I.hok.fresh (Nat.le_refl _), rfl, fun ys hy => by rw [I.tuple_inj hy hq]; exact hx⟩, ⟨⟨u, ?_⟩, st'.1.at fun o q => (sb.2 it (Ne.symm hne)).trans q, hne, hna⟩, fun b hb => ?_⟩
    · have e1 : ((i + 1 : Nat) : Int) = (i : Int) + 1 := by omega
      rw [e1]
      exact he2
    · have lb : b < s.heap.objs.size := by
        rcases List.mem_cons.mp hb with z | z
        · exact z ▸ lte
        · exact (List.mem_singleton.mp z) ▸ ltt
      rw [upd_ne (Nat.ne_of_lt lb)]
      exact (hf b hb).1
  done := by
    intro X hP hw hK hc i pins s σ H E I hf st hg
    subst hP hw hK
    obtain ⟨⟨old, he⟩, hit, hne, hna⟩ := st
    obtain ⟨xs, hq, hx⟩ := hg
    obtain ⟨its, rv, p, hz⟩ := I.tuple hq
    obtain ⟨f0, f1, f2, f3, f4, f5⟩ := hf it (by simp)
    have hn : its.toArray.size = i := by rw [List.size_toArray, ← rv.length]; exact hx
    refine wpAny_pyNext_enum_endD (Draws.tuple (show X.A.in1.handled = none from I.ok.hd hc) it a hna its.toArray) he ⟨by rw [hn]; exact hit, p⟩ fun h' eb => ⟨rfl, I.turned (t' := s.toks) (fun b o hb q => eb b o hb q) f0 f1 f3 f4 f5⟩
  self := fun A i s Q E st h => let ⟨⟨_, he⟩, _⟩ := st; wpAny_pyIter_enum he h
/-- enumerate(t) makes two new objects: t's iterator and itself -/
theorem enum1_new {v : Value} {it0 : Obj} {H : Heap → Prop} (B : Begins v it0 H) : Meets (Builtin.«enumerate.__new__» ⟨[.type "enumerate", v], []⟩) fun _ R s => H s.heap ∧
    R (.ok (.ret (.ref (s.heap.push it0).objs.size))) { s with heap := (s.heap.push it0).push { cls := .type "enumerate", data := .fields #[.none, .bool false, .ref s.heap.objs.size, rawInt 0, .none, .none] } } :=
  .of_wp fun prog w A R s h => by
    obtain ⟨hp, g, d, tk, os⟩ := s
    obtain ⟨h1, h2⟩ := h
    have sub := sub_enumerate
    have begins : ∀ {A' : Around} {E' : Value → Shared → Prop} {Q' : Value → Shared → Prop}, Q' (.ref hp.objs.size) ⟨hp.push it0, g, d, tk, os⟩ → wpAny (model prog w) A' (pyIter v) Q' E' ⟨hp, g, d, tk, os⟩ :=
      fun y => B.iter prog w _ _ ⟨hp, g, d, tk, os⟩ _ h1 y
    wp_walk using begins
    refine wpAny_stack_any fun _ => wpAny_pure ?_
    split
    · rename_i c _ _ _ _ _
      cases (c == Value.type "enumerate") <;> (wp_walk using begins; exact ⟨_, rfl, h2⟩)
    · wp_walk using begins
      exact ⟨_, rfl, h2⟩
theorem enum1_begins {prog : Program} {w : World} {A : Around} {E : Value → Shared → Prop} {s : Shared} {v : Value} {it0 : Obj} {H : Heap → Prop} {Q : Value → Shared → Prop} (B : Begins v it0 H) (h1 : H s.heap)
    (h : ∀ h', IsEnum h' (s.heap.objs.size + 1) s.heap.objs.size 0 .none → h'.get? s.heap.objs.size = some it0 → (∀ b o, s.heap.get? b = some o → h'.get? b = some o) → Q (.ref (s.heap.objs.size + 1)) { s with heap := h' }) :
    wpAny (model prog w) A (call (.type "enumerate") [v]) Q E s := by
  refine callType_new F.called_enumerate (by decide) (F.typeCall_enumerate_1 _) (F.newCall_enumerate_1 _) (fun obj => F.args_object_init_2 obj _) F.entry_enumerate_new (enum1_new B) ⟨h1, ?_⟩
  have z : (s.heap.push it0).objs.size = s.heap.objs.size + 1 := Heap.size_push ..
  have at1 : IsEnum ((s.heap.push it0).push { cls := .type "enumerate", data := .fields #[.none, .bool false, .ref s.heap.objs.size, rawInt 0, .none, .none] }) (s.heap.objs.size + 1) s.heap.objs.size 0 .none := by
    have y := Heap.get?_push_size (s.heap.push it0) (o := { cls := .type "enumerate", data := .fields #[.none, .bool false, .ref s.heap.objs.size, rawInt 0, .none, .none] }) rfl
    rw [z] at y
    exact y
  show _ ∧ _
  rw [z]
  exact ⟨⟨_, at1, rfl⟩, h _ at1 (Heap.get?_push_of_some _ (Heap.get?_push_size _ B.free)) fun b o x => Heap.get?_push_of_some _ (Heap.get?_push_of_some _ x)⟩
def iEnumT (K : PySem.W.Frag) (ta : TA) : TI := fun σ H R => ta σ H fun vs H1 => ∃ a xs, vs = [.ref a] ∧ SqT K H1 a xs ∧ R (Itet K a) H1
theorem walk_enumT {K : PySem.W.Frag} {a : Addr} {xs : List V} : Walk (Itet K a) xs.length (fun H => SqT K H a xs) (YPair (fun i => some (.int (i : Nat))) (fun i => xs[i]?)) := by
  refine ⟨fun i _ hi q => ⟨xs, xs[i], q, by simp [hi]⟩, fun _ q => ⟨xs, q, rfl⟩, fun i H v H' _ q y => ?_⟩
  obtain ⟨T, x, h1, h2, h3, h4⟩ := y
  exact ⟨T, .int (i : Nat), x, h1, h2, h3, rfl, h4 xs q⟩
theorem pi_enumT {X : Cx} {e : Expr} {ta : TA} {p pos tpos : Pos} {elts : List Expr} {kk : Nat} (hg : Gl X "enumerate") (hm : X.mg "enumerate" = none) (ha : PA X [e] ta) (hs : starEach [e] X.env = [(false, eval e X.env)] := by rfl) :
    PI X (.Tuple elts kk tpos) (.Call (.Name "enumerate" p) [e] [] pos) (iEnumT X.K ta) := by
  refine ⟨fun pins s σ H R I h => Call_ (ld_blt I hg hm boot_enumerate (PyProof.Rows.callWith_type1 (thn (ha.run pos pins s σ H _ I h) fun us s1 ⟨vs, H1, I1, r1, q1⟩ => ?_) hs rfl))⟩
  obtain ⟨a, xs, rfl, hq, q⟩ := q1
  rw [Vals.ref1 r1]
  obtain ⟨its, rv, p', hz⟩ := I1.tuple hq
  refine enum1_begins (begins_tuple a its.toArray) p' fun h' he hit hk => wpAny_pyIter_enum he ?_
  have J : Inv X pins σ H1 { s1 with heap := h' } := I1.kept (t' := s1.toks) hk
  have la : a ≠ s1.heap.objs.size := let ⟨_, ho, _⟩ := p'; Nat.ne_of_lt (Heap.lt_size ho)
  refine ⟨s1.heap.objs.size + 1, [s1.heap.objs.size + 1, s1.heap.objs.size], _, _, H1, rfl, J, turn_enumT a (s1.heap.objs.size + 1) s1.heap.objs.size,
    ⟨⟨.none, he⟩, ⟨_, hit, rfl, rfl⟩, Nat.succ_ne_self _, la⟩, fun b hb => ?_, q⟩
  have le : s1.heap.objs.size ≤ b := by
    rcases List.mem_cons.mp hb with z | z
    · rw [z]; exact Nat.le_succ _
    · rw [List.mem_singleton.mp z]; exact Nat.le_refl _
  exact I1.fpOk le (I1.hok.fresh le)
end Ol
set_option Elab.async false
set_option linter.all false
set_option maxRecDepth 100000
set_option maxHeartbeats 4000000
/-! own: tuples are made with their object told: it has no dict -/
namespace Ol
open PySem PySem.Spec PyProof.Rows L2
section
variable {X : Cx}
/-- what is told of a new tuple -/
def NewT (H : Hp) (xs : List V) (Q : VK) : Prop := ∀ (p : Addr) (ob : Obj), H p = none → ob.dict = none → Q (.ref p) (upd H p (.frz ob (.tup xs)))
theorem newT_at {pins : List (Addr × Obj)} {σ : L2.St} {H : Hp} {s : Shared} {Q : VK} {xs : List V} {its : List Value} (I : Inv X pins σ H s) (r : Vals xs its) (hz : xs.length ≤ sizeLine) (q : NewT H xs Q) :
    EP X pins σ Q (.ref s.heap.objs.size) { s with heap := s.heap.push { cls := .type "tuple", data := .seq its.toArray } } := by
  have at1 : (s.heap.push { cls := .type "tuple", data := .seq its.toArray }).get? s.heap.objs.size = some { cls := .type "tuple", data := .seq its.toArray } := Heap.get?_push_size _ rfl
  refine ⟨.ref s.heap.objs.size, _, I.laid (t' := s.toks) (o := .frz { cls := .type "tuple", data := .seq its.toArray } (.tup xs)) (fun b ob q => Heap.get?_push_of_some _ q) (Nat.le_refl _) ?_, rfl, q _ _ (I.hok.fresh (Nat.le_refl _)) rfl⟩
  exact ⟨at1, hz, its, r, ⟨_, at1, rfl, _, rfl⟩⟩
def tTupN (t : TA) : TE := fun σ H Q => t σ H fun xs H1 => xs.length ≤ sizeLine ∧ NewT H1 xs Q
theorem pe_tupN {es : List Expr} {pos : Pos} {t : TA} {x1} (h : PA X es t) : PE X (.Tuple es x1 pos) (tTupN t) := by
  refine ⟨fun pins s σ H Q I hq => ?_⟩
  refine wpAny_Tuple_spliced (thn (h.run pos pins s σ H _ I hq) fun us s1 ⟨xs, H1, I1, r, z, q⟩ => ⟨by rw [← r.length]; exact z, ?_⟩)
  exact newT_at I1 r z q
def rCatN (K : PySem.W.Frag) : R2 := fun x y H Q => ∃ a b xs ys, x = .ref a ∧ y = .ref b ∧ SqT K H a xs ∧ SqT K H b ys ∧ xs.length + ys.length ≤ sizeLine ∧
  (xs = [] → Q (.ref b) H) ∧ (xs ≠ [] → ys = [] → Q (.ref a) H) ∧ (xs ≠ [] → ys ≠ [] → NewT H (xs ++ ys) Q)
theorem op_catN : OpR X (binaryOp .Add) (rCatN X.K) := by
  intro pins s σ H x y v u Q I rx ry h
  obtain ⟨a, b, xs, ys, rfl, rfl, ha, hb, hz, q0, q1, q2⟩ := h
  cases rx
  cases ry
  obtain ⟨its, r1, p1, _⟩ := I.tuple ha
  obtain ⟨its2, r2, p2, _⟩ := I.tuple hb
  by_cases hx : xs = []
  · subst hx
    cases r1
    exact cat_tup0 p1 p2 ⟨.ref b, H, I, rfl, q0 rfl⟩
  · refine HT.cat_tup p1 p2 (fun z => hx (r1.nil_iff.mp z)) (fun z => ⟨.ref a, H, I, rfl, q1 hx (r2.nil_iff.mp z)⟩) (fun z => ?_) (by rw [← r1.length, ← r2.length]; exact hz)
    exact newT_at I (r1.append r2) (by rw [List.length_append]; exact hz) (q2 hx fun w => z (r2.nil_iff.mpr w))
def rSlN (K : PySem.W.Frag) : V → Option Int → Option Int → Hp → VK → Prop := fun x lo hi H Q => ∃ a xs, x = .ref a ∧ SqT K H a xs ∧
  (HT.sIx xs.length 0 lo = 0 ∧ HT.sIx xs.length xs.length hi = xs.length → Q (.ref a) H) ∧ (¬ (HT.sIx xs.length 0 lo = 0 ∧ HT.sIx xs.length xs.length hi = xs.length) → NewT H (cutV xs lo hi) Q)
theorem sl_tupN : SlR X (rSlN X.K) := by
  intro pins s σ H x v vl vu lo hi sl Q I rx hs pl pu h
  obtain ⟨a, xs, rfl, hx, q1, q2⟩ := h
  cases rx
  obtain ⟨its, r, ht, hz⟩ := I.tuple hx
  have hlen : its.toArray.size = xs.length := by rw [List.size_toArray]; exact r.length.symm
  refine ⟨"tuple", _, PyProof.Rows.slot_tuple_getitem.lookup, ht.typeIs, ?_⟩
  by_cases hw : HT.sIx xs.length 0 lo = 0 ∧ HT.sIx xs.length xs.length hi = xs.length
  · exact getItem_tuple_whole ht hs pl pu (by rw [hlen]; exact hw) ⟨.ref a, H, I, rfl, q1 hw⟩
  · refine HT.getItem_tuple_cut ht hs pl pu (by rw [hlen]; exact hw) ?_ (by rw [hlen]; exact hz)
    rw [hlen]
    exact newT_at I ((r.drop (HT.sIx xs.length 0 lo)).take (HT.sIx xs.length xs.length hi - HT.sIx xs.length 0 lo)) (Nat.le_trans (cutV_length xs lo hi) hz) (q2 hw)
theorem call_tupleN : CallR X (.type "tuple") (fun xs H Q => ∃ p ys, xs = [.ref p] ∧ ((SqL X.K H p ys ∧ NewT H ys Q) ∨ (SqT X.K H p ys ∧ Q (.ref p) H))) := by
  intro pins s σ H xs us Q I r h
  obtain ⟨p, ys, rfl, h⟩ := h
  obtain ⟨u, rfl, rx⟩ := vals1 r
  cases rx
  rcases h with ⟨hq, q⟩ | ⟨hq, q⟩
  · obtain ⟨its, r', pl, hz⟩ := I.list hq
    have hlen := r'.length
    refine call_tuple_list pl.isList (fun h' kp => ?_) (by simp only [List.size_toArray] <;> omega)
    have I1 : Inv X pins σ H { s with heap := h' } := I.kept (t' := s.toks) kp
    exact newT_at I1 r' hz q
  · obtain ⟨its, r', pl, hz⟩ := I.tuple hq
    exact call_tuple_same pl ⟨.ref p, H, I, rfl, q⟩
/-! t.index(x) -/
def NoD (H : Hp) (a : Addr) : Prop := ∃ (ob : Obj) (xs : List V), H a = some (.frz ob (.tup xs)) ∧ ob.dict = none
def tIdx (K : PySem.W.Frag) (to : TE) (t : TA) : TE := fun σ H Q => to σ H fun x H1 => (∃ p ys, x = .ref p ∧ SqT K H1 p ys ∧ NoD H1 p) ∧ t σ H1 fun xs H2 => ∃ p, ∃ ys : List Str, ∃ z j, x = .ref p ∧ xs = [.str z] ∧ SqT K H2 p (ys.map V.str) ∧ ys[j]? = some z ∧ (∀ m, m < j → ys[m]? ≠ some z) ∧ Q (.int (j : Nat)) H2
variable {o e : Expr} {es : List Expr} {to : TE} {t : TA} {apos cpos : Pos}
theorem pe_tupIdx (ho : PE X o to) (ha : PA X (e :: es) t)
    (hbase : attributeBase o "index" X.env (eval o X.env) = eval o X.env := by rfl)
    (hfew : ((backTo cpos (starEach (e :: es) X.env)).all (fun x => !x.1) && (backToKw cpos (keywordEach [] X.env)).all (fun x => x.1.isSome)
      && decide ((e :: es).length + ([] : List Keyword).length + (if ([] : List Keyword).isEmpty then 0 else 1) < 30)) = true := by rfl)
    (hline : (apos.endLine == cpos.line) = true := by rfl) (hs : starEach (e :: es) X.env = (false, eval e X.env) :: starEach es X.env := by rfl) (hplain : (backTo cpos (starEach es X.env)).any (·.1) = false := by rfl) :
    PE X (.Call (.Attribute o "index" apos) (e :: es) [] cpos) (tIdx X.K to t) := by
  refine ⟨fun pins s σ H Q I h => ?_⟩
  refine wpAny_Call_method_late hbase hfew hline rfl (thn (ho.run pins s σ H _ I h) fun v s1 ⟨x, H1, I1, r1, ty, q1⟩ => ?_)
  obtain ⟨p, ys, rfl, hq, ob, zs, hf, hd⟩ := ty
  cases r1
  obtain ⟨its, rr, pl, _⟩ := I1.tuple hq
  have hat : s1.heap.get? p = some ob := (I1.hok p _ hf).1
  refine ⟨"tuple", _, PySem.F.plainAttrs_tuple, PySem.F.slot_tuple_index, PySem.F.type_tuple_index, pl.typeIs, fun a ea => by cases ea; exact ⟨ob, hat, hd⟩, ?_⟩
  have hA := ha.run cpos pins s1 σ H1 _ I1 q1
  rw [hs] at hA ⊢
  refine Calls.callWith_builtin (by show (false || (backTo cpos (starEach es X.env)).any (·.1)) = false; rw [hplain] <;> rfl) (Calls.evalArgs_plain ?_)
  exact thn hA fun us s2 ⟨vs, H2, I2, r2, q2⟩ => mt_tup_index pins s2 σ H2 (.ref p) vs (.ref p) us Q I2 rfl r2 q2
/-! xs[::-1] of a list -/
def tRevL (K : PySem.W.Frag) (te : TE) (ts : TO) : TE := fun σ H Q => te σ H fun x H1 => ts σ H1 fun u H2 => u = some (-1) ∧ ∃ a xs, x = .ref a ∧ SqL K H2 a xs ∧ ∀ p, H2 p = none → Q (.ref p) (upd H2 p (.lst xs.reverse))
theorem pe_revL {st : Expr} {te : TE} {ts : TO} {p2 pos : Pos} (he : PE X e te) (hu : PO X (some st) ts) (hsub : ∀ v sl : Value, subscripted (.Slice none none (some st) p2) false v sl = operate [v, sl] (getItem v sl) := by intros; rfl) : PE X (.Subscript e (.Slice none none (some st) p2) pos) (tRevL X.K te ts) := by
  refine ⟨fun pins s σ H Q I h => ?_⟩
  refine Subscript_ (thn (he.run pins s σ H _ I h) fun v s1 ⟨x, H1, I1, r1, q1⟩ => ?_)
  refine wpAny_Slice ?_
  rw [evalPart_none]
  refine wpAny_pure (wpAny_pure ?_)
  refine thn (hu.run pins s1 σ H1 _ I1 q1) fun vu s3 ⟨u, H3, I3, pu, q3⟩ => ?_
  obtain ⟨rfl, a, xs, rfl, hx, q⟩ := q3
  cases r1
  have I4 : Inv X pins σ H3 { s3 with heap := s3.heap.push { cls := .type "slice", data := .fields #[.none, .none, vu] } } := I3.kept (t' := s3.toks) fun b ob q => Heap.get?_push_of_some _ q
  obtain ⟨its, r, ht, hz⟩ := I4.list hx
  have hlen := r.length
  have isl : Heap.IsSliceOf (s3.heap.push { cls := .type "slice", data := .fields #[.none, .none, vu] }) s3.heap.objs.size .none .none vu := Heap.IsSliceOf.new ..
  have hg : wpAny (model X.prog X.w) X.A (getItem (.ref a) (.ref s3.heap.objs.size)) (EP X pins σ Q) X.xe { s3 with heap := s3.heap.push { cls := .type "slice", data := .fields #[.none, .none, vu] } } := by
    refine wpAny_getItem_list_slice ht.isList isl .none .none pu (by decide) ?_ (by rw [List.size_toArray] <;> omega)
    rw [PySem.W.krv_pick]
    refine ⟨.ref _, _, I4.laid (t' := s3.toks) (o := .lst xs.reverse) (fun b ob q => Heap.get?_push_of_some _ q) (Nat.le_refl _) ?_, rfl, q _ (I4.hok.fresh (Nat.le_refl _))⟩
    exact ⟨by rw [List.length_reverse]; exact hz, its.reverse, 0, r.reverse, Heap.get?_push_size _ rfl⟩
  exact tail_any (ops := [.ref a, .ref s3.heap.objs.size]) ht.isList.typeIs slot_list_getitem.lookup hg (hsub _ _)
end
end Ol
set_option Elab.async false
set_option linter.all false
set_option maxRecDepth 100000
set_option maxHeartbeats 4000000
/-! own: dicts whose keys are tuples that are told with their object -/
namespace Ol
open PySem PySem.Spec PyProof.Rows L2
abbrev KE3 := List (List Key × Addr × V)
abbrev EntR : List Key × Addr × V → List Key × Addr × Value → Prop := fun p q => p.1 = q.1 ∧ p.2.1 = q.2.1 ∧ RelV p.2.2 q.2.2
/-- what stands in the dict's own object: keys, where they lie, values -/
def rawT (P : Program) (w : World) (a : Addr) (ks : KE3) (h : Heap) : Prop := ks.length ≤ sizeLine ∧ (a == sysModules) = false ∧ ∃ xs : List (List Key × Addr × Value), Paired EntR ks xs ∧
  ∃ o es ep, h.get? a = some o ∧ o.ExactDict ∧ o.data = .dict es ep ∧ es.toList = xs.map (entryOfKey (tupleKind (mixKind P w))) ∧ (xs.map (·.1)).Nodup
def DtO (P : Program) (w : World) (a : Addr) (ks : KE3) : HO := .ext (rawT P w a ks)
/-- a key that is told with its object -/
def TKn (K : PySem.W.Frag) (H : Hp) (k : List Key) (b : Addr) : Prop := SqT K H b (k.map kV)
def Kns (K : PySem.W.Frag) (H : Hp) (ks : KE3) : Prop := ∀ q ∈ ks, TKn K H q.1 q.2.1
def hasT (ks : KE3) (k : List Key) : Bool := ks.any fun q => decide (q.1 = k)
def putT (ks : KE3) (k : List Key) (b : Addr) (v : V) : KE3 := if hasT ks k = true then ks.map (fun q => if q.1 = k then (q.1, q.2.1, v) else q) else ks ++ [(k, b, v)]
theorem rawT_ok {P : Program} {w : World} {H : Hp} {h : Heap} {a : Addr} {ks : KE3} (r : rawT P w a ks h) : ObjOk P w H h a (DtO P w a ks) := by
  refine ⟨r, ?_, fun h1 h2 r1 k => ?_⟩
  · obtain ⟨_, _, _, _, o, _, _, e, _⟩ := r
    exact ⟨o, e⟩
  · obtain ⟨z, s, xs, pr, o, es, ep, e, more⟩ := r1
    exact ⟨z, s, xs, pr, o, es, ep, k o e, more⟩
section
variable {P : Program} {w : World} {H : Hp} {h : Heap} {a b : Addr} {ks : KE3} {xs : List (List Key × Addr × Value)} {k : List Key}
theorem key_told {X : Cx} {pins : List (Addr × Obj)} {σ : L2.St} {s : Shared} (I : Inv X pins σ H s) (e : TKn X.K H k b) : (tupleKind (mixKind X.prog X.w)).is s.heap k b := by
  obtain ⟨its, r, ⟨o, g1, g2, n, g3⟩, _⟩ := I.tuple e
  exact ⟨o, its.toArray, n, g1, g2, g3, by simpa using items_are r⟩
theorem dt_told {X : Cx} {pins : List (Addr × Obj)} {σ : L2.St} {s : Shared} (I : Inv X pins σ H s) (e : H a = some (DtO X.prog X.w a ks)) (kn : Kns X.K H ks) : ks.length ≤ sizeLine ∧ (a == sysModules) = false ∧ ∃ xs, Paired EntR ks xs ∧ s.heap.DictOfH (tupleKind (mixKind X.prog X.w)) a xs := by
  obtain ⟨z, s0, xs, pr, o, es, ep, g1, g2, g3, g4, g5⟩ := (I.hok a _ e).1
  refine ⟨z, s0, xs, pr, o, es, ep, g1, g2, g3, g4, ?_, g5⟩
  clear g1 g2 g3 g4 g5 z e
  induction pr with
  | nil => intro x hx; cases hx
  | @cons p q ps qs hq _ ih =>
    intro x hx
    rcases List.mem_cons.mp hx with rfl | hx
    · obtain ⟨e1, e2, _⟩ := hq
      rw [← e1, ← e2]
      exact key_told I (kn p List.mem_cons_self)
    · exact ih (fun q hq => kn q (List.mem_cons_of_mem _ hq)) x hx
theorem ent_has (r : Paired EntR ks xs) : (atKey xs k).isSome = hasT ks k := by
  induction r with
  | nil => rfl
  | @cons p q ps qs hq _ ih =>
    by_cases e : p.1 = k
    · have e2 : q.1 = k := hq.1.symm.trans e
      simp [atKey, hasT, List.find?_cons, e, e2]
    · have e2 : ¬ q.1 = k := fun z => e (hq.1.trans z)
      have z1 : atKey (q :: qs) k = atKey qs k := by simp [atKey, List.find?_cons, e2]
      have z2 : hasT (p :: ps) k = hasT ps k := by simp [hasT, e]
      rw [z1, z2, ih]
theorem ent_put {v : V} {u : Value} (r : Paired EntR ks xs) (rv : RelV v u) : Paired EntR (putT ks k b v) (storedH xs k b u) := by
  unfold putT storedH
  rw [ent_has r]
  by_cases c : hasT ks k = true
  · rw [if_pos c, if_pos c]
    clear c
    induction r with
    | nil => exact .nil
    | @cons p q ps qs hq _ ih =>
      refine .cons ?_ ih
      unfold putAt
      dsimp only
      by_cases e : p.1 = k
      · rw [if_pos e, if_pos (hq.1.symm.trans e)]
        exact ⟨hq.1, hq.2.1, rv⟩
      · rw [if_neg e, if_neg (fun z => e (hq.1.trans z))]
        exact hq
  · rw [if_neg c, if_neg c]
    exact Paired.snoc r ⟨rfl, rfl, rv⟩
theorem putT_len (ks : KE3) (k : List Key) (b : Addr) (v : V) : (putT ks k b v).length ≤ ks.length + 1 := by
  unfold putT
  split <;> simp
end
section
variable {X : Cx} {pos : Pos}
/-- {} -/
def tDtNew (P : Program) (w : World) : TE := fun _ H Q => ∀ p, H p = none → Q (.ref p) (upd H p (DtO P w p []))
theorem pe_dtNew : PE X (.Dict [] [] pos) (tDtNew X.prog X.w) := by
  refine ⟨fun pins s σ H Q I h => ?_⟩
  have hs : (s.heap.objs.size == sysModules) = false := beq_eq_false_iff_ne.mpr (Nat.ne_of_gt I.big)
  refine wpAny_Dict_empty ⟨.ref s.heap.objs.size, _, I.laid (a := s.heap.objs.size) (o := DtO X.prog X.w s.heap.objs.size []) (t' := s.toks) (fun _ _ q => Heap.get?_push_of_some _ q) (Nat.le_refl _) (rawT_ok ?_), rfl, h _ (I.hok.fresh (Nat.le_refl _))⟩
  exact ⟨Nat.zero_le _, hs, [], .nil, _, #[], _, Heap.get?_push_size _ rfl, ⟨rfl, rfl, rfl⟩, rfl, rfl, List.nodup_nil⟩
/-- d[k] = v -/
def rSetT (K : PySem.W.Frag) (P : Program) (w : World) : TSet := fun o i v H Q => ∃ a ks k b, o = .ref a ∧ i = .ref b ∧ H a = some (DtO P w a ks) ∧ TKn K H k b ∧ Kns K H ks ∧ ks.length < sizeLine ∧ Q (upd H a (DtO P w a (putT ks k b v)))
theorem set_dt (hu : X.A.units + 1 < cLine) : PSet X (rSetT X.K X.prog X.w) := by
  intro pins s σ H o i v ov iv u Q I ro ri rv h
  obtain ⟨a, ks, k, b, rfl, rfl, e, kb, kn, l, q⟩ := h
  cases (show ov = Value.ref a from ro)
  cases (show iv = Value.ref b from ri)
  obtain ⟨z, hs, xs, pr, dd⟩ := dt_told I e kn
  have hl : ks.length = xs.length := Paired.length pr
  have hz : xs.length ≤ sizeLine := by omega
  refine wpAny_setItem_heap (hsz := hz) (tupleKind_room_in1 hu) (key_told I kb) dd fun h' dd' sb => ?_
  obtain ⟨ob, es, ep, g1, g2, g3, g4, _, g5⟩ := dd'
  refine ⟨_, d_write I (by rw [e]; exact True.intro) sb ⟨ob, g1⟩ (rawT_ok ?_), q⟩
  exact ⟨by have := putT_len ks k b v; omega, hs, _, ent_put pr rv, ob, es, ep, g1, g2, g3, g4, g5⟩
/-- k in d -/
def rInT (K : PySem.W.Frag) (P : Program) (w : World) (neg : Bool) : R2 := fun x y H Q => ∃ a ks k b, x = .ref b ∧ y = .ref a ∧ H a = some (DtO P w a ks) ∧ TKn K H k b ∧ Kns K H ks ∧ Q (.bl (neg ^^ hasT ks k)) H
theorem or_inT (hu : X.A.units + 1 < cLine) : OpR X (compareOp .In) (rInT X.K X.prog X.w false) := by
  intro pins s σ H x y v u Q I rx ry h
  obtain ⟨a, ks, k, b, rfl, rfl, e, kb, kn, q⟩ := h
  cases (show v = Value.ref b from rx)
  cases (show u = Value.ref a from ry)
  obtain ⟨z, hs, xs, pr, dd⟩ := dt_told I e kn
  refine wpAny_in_heap (tupleKind_room_in1 hu) (key_told I kb) hs dd ?_
  rw [ent_has pr]
  rw [Bool.false_xor] at q
  exact ⟨.bl (hasT ks k), H, I.tok _, rfl, q⟩
theorem or_notInT (hu : X.A.units + 1 < cLine) : OpR X (compareOp .NotIn) (rInT X.K X.prog X.w true) := by
  intro pins s σ H x y v u Q I rx ry h
  obtain ⟨a, ks, k, b, rfl, rfl, e, kb, kn, q⟩ := h
  cases (show v = Value.ref b from rx)
  cases (show u = Value.ref a from ry)
  obtain ⟨z, hs, xs, pr, dd⟩ := dt_told I e kn
  refine wpAny_notIn_heap (tupleKind_room_in1 hu) (key_told I kb) hs dd ?_
  rw [ent_has pr]
  rw [Bool.true_xor] at q
  exact ⟨.bl (!hasT ks k), H, I.tok _, rfl, q⟩
end
end Ol
set_option Elab.async false
set_option linter.all false
set_option maxRecDepth 100000
set_option maxHeartbeats 4000000
/-! own: list(d), dict(pairs) for such dicts -/
namespace Ol
open PySem PySem.Spec PyProof.Rows L2
section
variable {X : Cx}
theorem ent_keys {ks : KE3} {xs : List (List Key × Addr × Value)} (r : Paired EntR ks xs) : xs.map (fun q => Value.ref q.2.1) = (ks.map fun q => q.2.1).map Value.ref := by
  induction r with
  | nil => rfl
  | cons hq _ ih => rw [List.map_cons, List.map_cons, List.map_cons, ih, hq.2.1]
/-- list(d): the keys as they lie -/
theorem call_listDt (hc : X.calm = true) : CallR X (.type "list") (fun xs H Q => ∃ d ks, xs = [V.ref d] ∧ H d = some (DtO X.prog X.w d ks) ∧ ∀ p, H p = none → Q (.ref p) (upd H p (.lst (ks.map fun q => V.ref q.2.1)))) := by
  intro pins s σ H xs us Q I r h
  obtain ⟨d, ks, rfl, hd, q⟩ := h
  obtain ⟨u, rfl, rx⟩ := r.one
  cases rx
  obtain ⟨z, hs, xs, pr, o, es, ep, ho, hx, hdt, he, hn⟩ := (I.hok d _ hd).1
  have l1 : es.size = xs.length := by
    have := congrArg List.length he
    simpa using this
  have l2 : ks.length = xs.length := Paired.length pr
  refine PySem.W.kdl_call (kdl_raw hs hx hdt) (I.ok.hd hc) ho (by omega) fun h' tk acc' c' kp e it => ?_
  have ea : acc'.toList = xs.map fun q => Value.ref q.2.1 := by
    refine List.ext_getElem? fun j => ?_
    have la : acc'.toList.length = xs.length := by rw [Array.length_toList, it.1, l1]
    by_cases hj : j < xs.length
    · have hj2 : j < acc'.toList.length := by omega
      obtain ⟨en, hen, hv⟩ := it.2 j acc'.toList[j] (by rw [← Array.getElem?_toList]; exact List.getElem?_eq_getElem hj2)
      have qe := entry_at he j
      rw [hen, List.getElem?_eq_getElem hj] at qe
      have e2 : en = entryOfKey (tupleKind (mixKind X.prog X.w)) xs[j] := Option.some.inj qe
      rw [List.getElem?_eq_getElem hj2, List.getElem?_map, List.getElem?_eq_getElem hj, hv, e2]
      rfl
    · rw [List.getElem?_eq_none (by omega), List.getElem?_map, List.getElem?_eq_none (by omega)]
      rfl
  rw [ent_keys pr] at ea
  have rv : Vals (ks.map fun q => V.ref q.2.1) acc'.toList := by
    rw [ea]
    have := vals_refs (ks.map fun q => q.2.1)
    rw [List.map_map] at this
    exact this
  refine ⟨.ref s.heap.objs.size, _, I.laid (t' := tk) (o := .lst (ks.map fun q => V.ref q.2.1)) kp (Nat.le_refl _) ?_, rfl, q _ (I.hok.fresh (Nat.le_refl _))⟩
  exact ⟨by rw [List.length_map]; exact z, acc'.toList, c', rv, by rw [Array.toArray_toList]; exact e⟩
end
/-- one pair behind the other -/
def mergeT : KE3 → KE3 → KE3
  | acc, [] => acc
  | acc, q :: r => mergeT (putT acc q.1 q.2.1 q.2.2) r
def mergeE : List (List Key × Addr × Value) → List (List Key × Addr × Value) → List (List Key × Addr × Value)
  | acc, [] => acc
  | acc, q :: r => mergeE (storedH acc q.1 q.2.1 q.2.2) r
theorem storedH_len (xs : List (List Key × Addr × Value)) (k : List Key) (b : Addr) (u : Value) : (storedH xs k b u).length ≤ xs.length + 1 := by
  unfold storedH
  split <;> simp
theorem ent_merge {ps : KE3} {qs : List (List Key × Addr × Value)} (r : Paired EntR ps qs) : ∀ {ks : KE3} {xs : List (List Key × Addr × Value)}, Paired EntR ks xs → Paired EntR (mergeT ks ps) (mergeE xs qs) := by
  induction r with
  | nil => exact fun t => t
  | @cons p q ps qs hq _ ih =>
    intro ks xs t
    show Paired EntR (mergeT (putT ks p.1 p.2.1 p.2.2) ps) (mergeE (storedH xs q.1 q.2.1 q.2.2) qs)
    rw [← hq.1, ← hq.2.1]
    exact ih (ent_put t hq.2.2)
section
variable {prog : Program} {w : World} {A : Around} {E : Value → Shared → Prop}
theorem tk_keep {h h' : Heap} {k : List Key} {b I : Addr} (x : (tupleKind (mixKind prog w)).is h k b) (kp : ∀ c o, c ≠ I → h.get? c = some o → h'.get? c = some o) (n : b ≠ I) : (tupleKind (mixKind prog w)).is h' k b := by
  obtain ⟨o, its, m, g1, g2, g3, g4⟩ := x
  exact ⟨o, its, m, kp b o n g1, g2, g3, g4⟩
theorem dh_keep {h h' : Heap} {S I : Addr} {acc : List (List Key × Addr × Value)} (x : h.DictOfH (tupleKind (mixKind prog w)) S acc) (kp : ∀ c o, c ≠ I → h.get? c = some o → h'.get? c = some o) (n : S ≠ I) (na : ∀ q ∈ acc, q.2.1 ≠ I) : h'.DictOfH (tupleKind (mixKind prog w)) S acc := by
  obtain ⟨o, es, ep, g1, g2, g3, g4, g5, g6⟩ := x
  exact ⟨o, es, ep, kp S o n g1, g2, g3, g4, fun q hq => tk_keep (g5 q hq) kp (na q hq), g6⟩
/-- the walk over the pairs -/
theorem ud_loopT {R : Result → Shared → Prop} {S I l : Addr} {items : Array Value} {res : Value} (hu : A.units + 2 < cLine) (hh : A.handled = none) (n1 : l ≠ I) (n2 : S ≠ I) (n3 : S ≠ l) :
    ∀ (rest : List (List Key × Addr × Value)) (i : Nat) (acc : List (List Key × Addr × Value)) (ix : Int) (t : Tok) (s : Shared), items.size = i + rest.length → acc.length + rest.length ≤ sizeLine →
      (∀ (j : Nat) (q : List Key × Addr × Value), rest[j]? = some q → ∃ b : Addr, items[i + j]? = some (.ref b) ∧ b ≠ S ∧ b ≠ I ∧ q.2.1 ≠ S ∧ q.2.1 ≠ I ∧ IsTup s.heap b #[.ref q.2.1, q.2.2] ∧ (tupleKind (mixKind prog w)).is s.heap q.1 q.2.1) →
      (∀ q ∈ acc, q.2.1 ≠ S ∧ q.2.1 ≠ I) →
      s.heap.IsListIter I l i → s.heap.IsList l items → s.heap.DictOfH (tupleKind (mixKind prog w)) S acc →
      (∀ h' tk, h'.DictOfH (tupleKind (mixKind prog w)) S (mergeE acc rest) → (∀ b o, b ≠ S → b ≠ I → s.heap.get? b = some o → h'.get? b = some o) → R (.ok (.ret res)) { s with heap := h', toks := tk }) →
      codeAny (model prog w) A (.builtin "dict.update.loop" ⟨[.ref S, .ref I, .int ix t, res], []⟩) R s := by
  intro rest
  induction rest with
  | nil =>
    intro i acc ix t s hsz hln ht ha hit hl hm hR
    refine codeAny_builtin ud_entry ?_
    rw [Around.under_plainId ud_plain _]
    show wpAny _ A.in1 (pyNext (.ref I) >>= _) _ _ s
    refine wpAny_bind (wpAny_pyNext_list_end (A := A.in1) hh hit hl (Array.getElem?_eq_none (Nat.le_of_eq hsz)) fun h' he => ?_)
    show wpAny _ A.in1 (Builtin.Dict.addKeywords S [] >>= _) _ _ _
    refine wpAny_bind (wpAny_pure (wpAny_pure ?_))
    exact hR h' s.toks (dh_keep hm (fun c o hc e => he c o hc e) n2 fun q hq => (ha q hq).2) fun c o _ hc e => he c o hc e
  | cons q rest ih =>
    intro i acc ix t s hsz hln ht ha hit hl hm hR
    obtain ⟨b, hb, bS, bI, kS, kI, htup, hk⟩ := ht 0 q rfl
    rw [List.length_cons] at hsz hln
    refine codeAny_builtin ud_entry ?_
    rw [Around.under_plainId ud_plain _]
    show wpAny _ A.in1 (pyNext (.ref I) >>= _) _ _ s
    refine wpAny_bind (wpAny_pyNext_list_item (x := .ref b) hit hl (by simpa using hb) fun h1 hit1 sb1 => ?_)
    have kp1 : ∀ c o, c ≠ I → s.heap.get? c = some o → h1.get? c = some o := fun c o hc e => (sb1.2 c hc).trans e
    have tup1 : IsTup h1 b #[.ref q.2.1, q.2.2] := htup.extBut sb1.extBut bI
    have l1 : h1.IsList l items := hl.extBut sb1.extBut n1
    have m1 := dh_keep hm kp1 n2 fun q hq => (ha q hq).2
    obtain ⟨o, ho, hc, n, hd⟩ := id tup1
    show wpAny _ A.in1 (holding [Value.ref b] _ >>= _) _ _ _
    refine wpAny_bind (wpAny_holding ?_)
    refine wpAny_bind (wpAny_tryCatch ?_)
    unfold Builtin.Dict.pairItems
    refine wpAny_bind (wpAny_typeOf (T := "tuple") ⟨o, ho, hc⟩ ?_)
    rw [if_pos (by first | decide | rfl | simp)]
    refine wpAny_bind (wpAny_seqItems ho hd (wpAny_pure ?_))
    show wpAny _ A.in1 (holding [Value.ref q.2.1, q.2.2] (dictSet S (.ref q.2.1) q.2.2)) _ _ _
    refine wpAny_holding (wpAny_dictSet_heap (knd := tupleKind (mixKind prog w)) (k := q.1) (by show A.units + 1 < cLine; omega) (tk_keep hk kp1 kI) m1 (fun h2 m2 sb2 => ?_) (by omega))
    have kp2 : ∀ c o, c ≠ S → h1.get? c = some o → h2.get? c = some o := fun c o hc e => (sb2.2 c hc).trans e
    have hacc : ∀ x ∈ storedH acc q.1 q.2.1 q.2.2, x.2.1 ≠ S ∧ x.2.1 ≠ I := fun x hx => by
      unfold storedH at hx
      split at hx
      · obtain ⟨y, hy, rfl⟩ := List.mem_map.mp hx
        unfold putAt
        split
        · exact ha y hy
        · exact ha y hy
      · rcases List.mem_append.mp hx with h | h
        · exact ha x h
        · rw [List.mem_singleton] at h
          rw [h]
          exact ⟨kS, kI⟩
    refine wpAny_pure ⟨plainId_quiet ud_plain _, ih (i + 1) (storedH acc q.1 q.2.1 q.2.2) (ix + 1) 0 _ (show items.size = i + 1 + rest.length by omega) ?_ (fun j q' e => ?_) hacc ?_ ?_ m2 fun h' tk dd k => ?_⟩
    · have := storedH_len acc q.1 q.2.1 q.2.2
      omega
    · obtain ⟨b', hb', c1, c2, c3, c4, c5, c6⟩ := ht (j + 1) q' (by simpa using e)
      refine ⟨b', ?_, c1, c2, c3, c4, (c5.extBut sb1.extBut c2).extBut sb2.extBut c1, tk_keep (tk_keep c6 kp1 c4) kp2 c3⟩
      rw [show i + 1 + j = i + (j + 1) by omega]
      exact hb'
    · exact hit1.at fun o' e => sb2.extBut I o' (Ne.symm n2) e
    · exact l1.extBut sb2.extBut (Ne.symm n3)
    · exact hR h' tk dd fun c oc h3 h4 e => k c oc h3 h4 (kp2 c oc h3 (kp1 c oc h4 e))
/-- dict(l) of pairs -/
theorem dict_pairsT {s : Shared} {l : Addr} {ol : Obj} {items : Array Value} {n : Nat} {prs : List (List Key × Addr × Value)} {Q : Value → Shared → Prop} (hu : A.units + 3 < cLine) (hh : A.handled = none) (hl : s.heap.get? l = some ol) (hc : ol.cls = .type "list") (hd : ol.dict = none)
    (hdat : ol.data = .seq items n) (hsz : items.size = prs.length) (hln : prs.length ≤ sizeLine)
    (ht : ∀ (j : Nat) (q : List Key × Addr × Value), prs[j]? = some q → ∃ b : Addr, items[j]? = some (.ref b) ∧ IsTup s.heap b #[.ref q.2.1, q.2.2] ∧ (tupleKind (mixKind prog w)).is s.heap q.1 q.2.1)
    (h : ∀ h' tk, h'.DictOfH (tupleKind (mixKind prog w)) s.heap.objs.size (mergeE [] prs) → (∀ b o, s.heap.get? b = some o → h'.get? b = some o) → Q (.ref s.heap.objs.size) { s with heap := h', toks := tk }) :
    wpAny (model prog w) A (call (.type "dict") [.ref l]) Q E s := by
  refine callType_codes (Q₁ := fun obj s₁ => obj = .ref s.heap.objs.size ∧ s₁ = { s with heap := s.heap.push { cls := .type "dict", data := .dict #[] } }) PySem.F.kt_called_dict (PySem.F.kt_typeCall_dict_1 _) PySem.F.entry_dict_init (kt_code_dict_new _ ⟨rfl, rfl⟩) ?_
  rintro obj s₁ ⟨rfl, rfl⟩
  have e0 : (s.heap.push { cls := .type "dict", data := .dict #[] }).get? s.heap.objs.size = some { cls := .type "dict", data := .dict #[] } := Heap.get?_push_size _ rfl
  have new : (s.heap.push { cls := .type "dict", data := .dict #[] }).DictOfH (tupleKind (mixKind prog w)) s.heap.objs.size [] := ⟨_, #[], _, e0, ⟨rfl, rfl, rfl⟩, rfl, rfl, (fun _ h => by cases h), List.nodup_nil⟩
  have k0 : ∀ b o, s.heap.get? b = some o → (s.heap.push { cls := .type "dict", data := .dict #[] }).get? b = some o := fun b o e => Heap.get?_push_of_some _ e
  have nt : (⟨s.heap.push { cls := .type "dict", data := .dict #[] }, s.gens, s.drawn, s.toks, s.os⟩ : Shared).TypeIs (.ref s.heap.objs.size) "dict" := ⟨_, e0, rfl⟩
  refine ⟨nt, PySem.F.args_dict_init_2 _ _, ?_⟩
  unfold Builtin.«dict.__init__»
  refine wpAny_bind ?_
  unfold Builtin.Dict.selfAndRest
  refine wpAny_bind (wpAny_notOrdered_dict nt ?_)
  show wpAny _ _ (pure (s.heap.objs.size, [Value.ref l])) _ _ _
  refine wpAny_pure ?_
  show wpAny _ _ (Builtin.Dict.updateFrom "dict.__init__" s.heap.objs.size (.ref l) [] .none) _ _ _
  unfold Builtin.Dict.updateFrom
  refine wpAny_bind (wpAny_typeOf (T := "list") ⟨ol, k0 _ _ hl, hc⟩ ?_)
  rw [if_pos (by first | decide | rfl | simp)]
  refine wpAny_bind (miss_list (k0 _ _ hl) hc hdat hd hh fun h1 tk1 k1 => ?_)
  rw [if_pos (show (none : Option Value).isNone = true from rfl)]
  refine wpAny_bind (wpAny_rule ?_)
  have l1 : h1.IsList l items := ⟨ol, k1 _ _ (k0 _ _ hl), hc, n, hdat⟩
  have S1 : s.heap.objs.size < h1.objs.size := Heap.lt_size (k1 _ _ e0)
  refine wpAny_bind (wpAny_pyIter_list l1 ?_)
  have k2 : ∀ b o, h1.get? b = some o → (h1.push { cls := .type "list_iterator", data := .fields #[.ref l, .int 0 0] }).get? b = some o := fun b o e => Heap.get?_push_of_some _ e
  have kk : ∀ b o, s.heap.get? b = some o → (h1.push { cls := .type "list_iterator", data := .fields #[.ref l, .int 0 0] }).get? b = some o := fun b o e => k2 _ _ (k1 _ _ (k0 _ _ e))
  have llt : l < s.heap.objs.size := Heap.lt_size hl
  have small : ∀ {b : Addr}, b < s.heap.objs.size → b ≠ s.heap.objs.size ∧ b ≠ h1.objs.size := fun {b} hb => ⟨Nat.ne_of_lt hb, Nat.ne_of_lt (Nat.lt_trans hb S1)⟩
  have key := ud_loopT (prog := prog) (w := w) (A := A.in1) (R := wants (fun r s₂ => r = .none ∧ Q (.ref s.heap.objs.size) s₂) E) (S := s.heap.objs.size) (I := h1.objs.size) (l := l) (items := items) (res := Value.none) (by show A.units + 1 + 2 < cLine; omega) hh (small llt).2 (Nat.ne_of_lt S1) (Ne.symm (small llt).1) prs 0 [] 0 0
    { s with heap := h1.push { cls := .type "list_iterator", data := .fields #[.ref l, .int 0 0] }, toks := tk1 } (by rw [hsz, Nat.zero_add]) (by rw [List.length_nil, Nat.zero_add]; exact hln)
    (fun j q e => by
      obtain ⟨b, e1, e2, e3⟩ := ht j q e
      obtain ⟨c1, c2⟩ := small e2.lt
      have kb : q.2.1 < s.heap.objs.size := by
        obtain ⟨_, _, _, g1, _⟩ := e3
        exact Heap.lt_size g1
      obtain ⟨c3, c4⟩ := small kb
      refine ⟨b, by rw [Nat.zero_add]; exact e1, c1, c2, c3, c4, e2.keeps fun c o z => kk c o z, ?_⟩
      obtain ⟨o, its, m, g1, g2, g3, g4⟩ := e3
      exact ⟨o, its, m, kk _ _ g1, g2, g3, g4⟩)
    (fun q hq => by cases hq) ⟨_, Heap.get?_push_size _ rfl, rfl, rfl⟩ (l1.at fun o e => k2 _ _ e)
    ⟨_, #[], _, k2 _ _ (k1 _ _ e0), ⟨rfl, rfl, rfl⟩, rfl, rfl, fun _ h => (by cases h), List.nodup_nil⟩
    (fun h' tk dd k => ⟨rfl, h h' tk dd fun b o e => by
      obtain ⟨c1, c2⟩ := small (Heap.lt_size e)
      exact k b o c1 c2 (kk b o e)⟩)
  first
    | exact wpAny_pure ⟨plainId_quiet ud_plain _, key⟩
    | exact wpAny_bind (wpAny_pure (wpAny_pure ⟨plainId_quiet ud_plain _, key⟩))
end
end Ol
set_option Elab.async false
set_option linter.all false
set_option maxRecDepth 100000
set_option maxHeartbeats 4000000
/-! own: dict(pairs) as a rule -/
namespace Ol
open PySem PySem.Spec PyProof.Rows L2
section
variable {X : Cx}
theorem pairs_told {pins : List (Addr × Obj)} {σ : L2.St} {H : Hp} {s : Shared} (I : Inv X pins σ H s) : ∀ {ps : List Addr} {ks : KE3}, Paired (fun p q => SqT X.K H p [.ref q.2.1, q.2.2]) ps ks → Kns X.K H ks →
    ∃ prs : List (List Key × Addr × Value), Paired EntR ks prs ∧ prs.length = ps.length ∧ ∀ (j : Nat) (q : List Key × Addr × Value), prs[j]? = some q → ∃ b : Addr, ps[j]? = some b ∧ IsTup s.heap b #[.ref q.2.1, q.2.2] ∧ (tupleKind (mixKind X.prog X.w)).is s.heap q.1 q.2.1 := by
  intro ps ks r
  induction r with
  | nil => intro _; exact ⟨[], .nil, rfl, fun j q e => by simp at e⟩
  | @cons p q ps ks h _ ih =>
    intro kn
    obtain ⟨prs, r, hl, hp⟩ := ih fun x hx => kn x (List.mem_cons_of_mem _ hx)
    obtain ⟨its, rv, ht, _⟩ := I.tuple h
    obtain ⟨u, y, rfl, ru, ry⟩ := vals2 rv
    cases (show u = Value.ref q.2.1 from ru)
    refine ⟨(q.1, q.2.1, y) :: prs, .cons ⟨rfl, rfl, ry⟩ r, by rw [List.length_cons, List.length_cons, hl], fun j x e => ?_⟩
    cases j with
    | zero =>
      have e' : (q.1, q.2.1, y) = x := Option.some.inj e
      subst e'
      exact ⟨p, rfl, ht, key_told I (kn q List.mem_cons_self)⟩
    | succ j =>
      obtain ⟨b, e1, e2, e3⟩ := hp j x (by simpa using e)
      exact ⟨b, by simpa using e1, e2, e3⟩
theorem mergeT_len : ∀ (ps ks : KE3), (mergeT ks ps).length ≤ ks.length + ps.length
  | [], ks => by simp [mergeT]
  | q :: r, ks => by
    have h1 := mergeT_len r (putT ks q.1 q.2.1 q.2.2)
    have h2 := putT_len ks q.1 q.2.1 q.2.2
    rw [List.length_cons]
    unfold mergeT
    omega
def rDictT (K : PySem.W.Frag) (P : Program) (w : World) : List V → Hp → VK → Prop := fun xs H Q => ∃ (a : Addr) (ps : List Addr) (ks : KE3), xs = [V.ref a] ∧ SqL K H a (ps.map V.ref) ∧ Paired (fun p q => SqT K H p [.ref q.2.1, q.2.2]) ps ks ∧ Kns K H ks ∧
    ∀ p, H p = none → Q (.ref p) (upd H p (DtO P w p (mergeT [] ks)))
theorem call_dictDt (hu : X.A.units + 3 < cLine) (hc : X.calm = true) : CallR X (.type "dict") (rDictT X.K X.prog X.w) := by
  intro pins s σ H xs us Q I r q
  obtain ⟨a, ps, ks, rfl, hq, hp, kn, q⟩ := q
  obtain ⟨u, rfl, rx⟩ := vals1 r
  cases rx
  obtain ⟨its, rv, pl, hz⟩ := I.list hq
  have ei := refs_at rv
  subst ei
  rw [List.length_map] at hz
  obtain ⟨prs, rel, hl, hpr⟩ := pairs_told I hp kn
  obtain ⟨o, n, ho, hcl, hd, hdat⟩ := pl
  refine dict_pairsT (prs := prs) hu (I.ok.hd hc) ho hcl hd hdat (by simp [hl]) (by rw [hl]; exact hz) (fun j x e => ?_) fun h' tk dd k => ?_
  · obtain ⟨b, e1, e2, e3⟩ := hpr j x e
    exact ⟨b, by simp [e1], e2, e3⟩
  · have hs : (s.heap.objs.size == sysModules) = false := beq_eq_false_iff_ne.mpr (Nat.ne_of_gt I.big)
    have hlen := mergeT_len ks []
    have hl2 : ks.length = prs.length := Paired.length rel
    obtain ⟨ob, es, ep, g1, g2, g3, g4, _, g5⟩ := dd
    refine ⟨.ref s.heap.objs.size, _, I.laid (t' := tk) (o := DtO X.prog X.w s.heap.objs.size (mergeT [] ks)) k (Nat.le_refl _) (rawT_ok ?_), rfl, q _ (I.hok.fresh (Nat.le_refl _))⟩
    exact ⟨by rw [List.length_nil] at hlen; omega, hs, _, ent_merge rel .nil, ob, es, ep, g1, g2, g3, g4, g5⟩
end
end Ol
set_option Elab.async false
set_option linter.all false
set_option maxRecDepth 100000
set_option maxHeartbeats 4000000
/-! own: readings by data. Hb is what is known and stands still; owned cells lie outside of it -/
namespace Ol
open PySem PySem.Spec PyProof.Rows L2
abbrev Fg := PySem.W.Frag
abbrev D := PyData
def Ex (H H' : Hp) : Prop := ∀ a o, H a = some o → H' a = some o
theorem Ex.rfl {H : Hp} : Ex H H := fun _ _ h => h
theorem Ex.trans {H H1 H2 : Hp} (a : Ex H H1) (b : Ex H1 H2) : Ex H H2 := fun x o h => b x o (a x o h)
theorem Ex.new {H : Hp} {p : Addr} {o : HO} (h : H p = none) : Ex H (upd H p o) := fun a u e => by
  rw [upd_ne (ne_of_none e h)]
  exact e
theorem Ex.free {H H' : Hp} {p : Addr} (e : Ex H H') (h : H' p = none) : H p = none := by
  cases q : H p with
  | none => rfl
  | some o => rw [e p o q] at h; cases h
theorem Ex.some' {H H' : Hp} {p : Addr} (e : Ex H H') (h : H p ≠ none) : H' p ≠ none := by
  intro z
  exact h (e.free z)
/-- an owned cell is written: what is known stands -/
theorem Ex.own {H H' : Hp} {p : Addr} {o : HO} (e : Ex H H') (h : H p = none) : Ex H (upd H' p o) := fun a u q => by
  rw [upd_ne (ne_of_none q h)]
  exact e a u q
theorem upd_ex {H H' : Hp} {p : Addr} {o : HO} (e : Ex H H') (h : H' p = some o) : Ex (upd H p o) H' := fun a u q => by
  by_cases z : a = p
  · subst z
    rw [upd_same] at q
    rw [← Option.some.inj q]
    exact h
  · rw [upd_ne z] at q
    exact e a u q
/-! ### data; of a tuple of texts it is told that its object has no dict -/
def isS : D → Bool
  | .str _ => true
  | _ => false
mutual
inductive Dp (K : Fg) (H : Hp) : V → D → Prop
  | non : Dp K H .non .none
  | bl (b : Bool) : Dp K H (.bl b) (.bool b)
  | int (i : Int) : Dp K H (.int i) (.int i)
  | str (x : Str) : Dp K H (.str x) (.str x)
  | lst {a : Addr} {xs : List V} {ds : List D} : SqL K H a xs → DpAll K H xs ds → Dp K H (.ref a) (.list ds)
  | tup {a : Addr} {xs : List V} {ds : List D} : SqT K H a xs → DpAll K H xs ds → (ds.all isS = true → NoD H a) → Dp K H (.ref a) (.tuple ds)
  | dic {a : Addr} : H a = some (.dK []) → Dp K H (.ref a) (.dict [])
inductive DpAll (K : Fg) (H : Hp) : List V → List D → Prop
  | nil : DpAll K H [] []
  | cons {v : V} {vs : List V} {d : D} {ds : List D} : Dp K H v d → DpAll K H vs ds → DpAll K H (v :: vs) (d :: ds)
end
theorem noDict_cons {d : D} {ds : List D} (h : PyData.hasDictAll (d :: ds) = false) : d.hasDict = false ∧ PyData.hasDictAll ds = false := by simpa [PyData.hasDictAll] using h
mutual
theorem Dp.toL {K : Fg} {H : Hp} : ∀ {d : D} {v : V}, Dp K H v d → d.hasDict = false → L2.Dp K H v d
  | .none, _, h, _ => by cases h; exact .non
  | .bool b, _, h, _ => by cases h; exact .bl b
  | .int i, _, h, _ => by cases h; exact .int i
  | .str x, _, h, _ => by cases h; exact .str x
  | .list ds, _, h, n => by cases h with | lst hs ha => exact .lst hs (DpAll.toL ha (by simpa [PyData.hasDict] using n))
  | .tuple ds, _, h, n => by cases h with | tup hs ha _ => exact .tup hs (DpAll.toL ha (by simpa [PyData.hasDict] using n))
  | .dict _, _, _, n => by simp [PyData.hasDict] at n
theorem DpAll.toL {K : Fg} {H : Hp} : ∀ {ds : List D} {vs : List V}, DpAll K H vs ds → PyData.hasDictAll ds = false → L2.DpAll K H vs ds
  | [], _, h, _ => by cases h; exact .nil
  | d :: ds, _, h, n => by cases h with | cons a b => exact .cons (Dp.toL a (noDict_cons n).1) (DpAll.toL b (noDict_cons n).2)
end
mutual
theorem noDict_lay : ∀ {d : D}, d.canLay0 = true → d.hasDict = false
  | .none, _ => by simp [PyData.hasDict]
  | .bool _, _ => by simp [PyData.hasDict]
  | .int _, _ => by simp [PyData.hasDict]
  | .str _, _ => by simp [PyData.hasDict]
  | .list xs, h => by rw [PyData.hasDict]; exact noDict_layAll (by simpa [PyData.canLay0] using h)
  | .tuple xs, h => by rw [PyData.hasDict]; exact noDict_layAll (by simpa [PyData.canLay0] using h)
  | .dict _, h => by simp [PyData.canLay0] at h
theorem noDict_layAll : ∀ {ds : List D}, PyData.canLayAll0 ds = true → PyData.hasDictAll ds = false
  | [], _ => by simp [PyData.hasDictAll]
  | d :: ds, h => by
    have h' : d.canLay0 = true ∧ PyData.canLayAll0 ds = true := by simpa [PyData.canLayAll0] using h
    rw [PyData.hasDictAll, noDict_lay h'.1, noDict_layAll h'.2]
    rfl
end
theorem noDict_shaped {d : D} (h : SeqAt.shaped d = true) : d.hasDict = false := noDict_lay (SeqAt.canLay_of_shaped h)
theorem NoD.ex {H H' : Hp} {a : Addr} (e : Ex H H') (h : NoD H a) : NoD H' a := by
  obtain ⟨ob, xs, h1, h2⟩ := h
  exact ⟨ob, xs, e a _ h1, h2⟩
theorem NoD.of {H : Hp} {p : Addr} {ob : Obj} {xs : List V} (h : ob.dict = none) : NoD (upd H p (.frz ob (.tup xs))) p := ⟨ob, xs, upd_same, h⟩
theorem sqt_new {K : Fg} {H : Hp} {p : Addr} {ob : Obj} {xs : List V} : SqT K (upd H p (.frz ob (.tup xs))) p xs := .inl (.inr ⟨ob, upd_same⟩)
/-! ### data stands -/
theorem rd_ex {H H' : Hp} {a : Addr} {u : HO} (e : Ex H H') (h : Rd H a u) : Rd H' a u := by
  rcases h with h | ⟨o, h⟩
  · exact .inl (e a _ h)
  · exact .inr ⟨o, e a _ h⟩
theorem sql_ex {K : Fg} {H H' : Hp} {a : Addr} {xs : List V} (e : Ex H H') (h : SqL K H a xs) : SqL K H' a xs := h.imp (rd_ex e) id
theorem sqt_ex {K : Fg} {H H' : Hp} {a : Addr} {xs : List V} (e : Ex H H') (h : SqT K H a xs) : SqT K H' a xs := h.imp (rd_ex e) id
mutual
theorem Dp.ex {K : Fg} {H H' : Hp} (e : Ex H H') : ∀ {d : D} {v : V}, Dp K H v d → Dp K H' v d
  | .none, _, h => by cases h; exact .non
  | .bool b, _, h => by cases h; exact .bl b
  | .int i, _, h => by cases h; exact .int i
  | .str x, _, h => by cases h; exact .str x
  | .list ds, _, h => by cases h with | lst hs ha => exact .lst (sql_ex e hs) (DpAll.ex e ha)
  | .tuple ds, _, h => by cases h with | tup hs ha hn => exact .tup (sqt_ex e hs) (DpAll.ex e ha) fun z => (hn z).ex e
  | .dict [], _, h => by cases h with | dic r => exact .dic (e _ _ r)
  | .dict (_ :: _), _, h => by cases h
theorem DpAll.ex {K : Fg} {H H' : Hp} (e : Ex H H') : ∀ {ds : List D} {vs : List V}, DpAll K H vs ds → DpAll K H' vs ds
  | [], _, h => by cases h; exact .nil
  | d :: ds, _, h => by cases h with | cons a b => exact .cons (Dp.ex e a) (DpAll.ex e b)
end
theorem DpAll.length {K : Fg} {H : Hp} : ∀ {vs : List V} {ds : List D}, DpAll K H vs ds → vs.length = ds.length
  | _, _, .nil => rfl
  | _, _, .cons _ t => congrArg Nat.succ (DpAll.length t)
theorem DpAll.get {K : Fg} {H : Hp} : ∀ {vs : List V} {ds : List D} {i : Nat} {d : D}, DpAll K H vs ds → ds[i]? = some d → ∃ v, vs[i]? = some v ∧ Dp K H v d
  | _, _, _, _, .nil, e => by simp at e
  | _, _, 0, _, .cons r _, e => by
    simp at e
    subst e
    exact ⟨_, rfl, r⟩
  | _, _, i + 1, d, .cons _ t, e => by
    obtain ⟨v, h1, h2⟩ := DpAll.get (i := i) (d := d) t (by simpa using e)
    exact ⟨v, by simpa using h1, h2⟩
theorem DpAll.append {K : Fg} {H : Hp} : ∀ {xs ys : List V} {ds es : List D}, DpAll K H xs ds → DpAll K H ys es → DpAll K H (xs ++ ys) (ds ++ es)
  | _, _, _, _, .nil, s => s
  | _, _, _, _, .cons r t, s => .cons r (DpAll.append t s)
theorem DpAll.take {K : Fg} {H : Hp} : ∀ {xs : List V} {ds : List D} (n : Nat), DpAll K H xs ds → DpAll K H (xs.take n) (ds.take n)
  | _, _, 0, _ => .nil
  | _, _, _ + 1, .nil => .nil
  | _, _, n + 1, .cons r t => .cons r (DpAll.take n t)
theorem DpAll.drop {K : Fg} {H : Hp} : ∀ {xs : List V} {ds : List D} (n : Nat), DpAll K H xs ds → DpAll K H (xs.drop n) (ds.drop n)
  | _, _, 0, r => r
  | _, _, _ + 1, .nil => .nil
  | _, _, n + 1, .cons _ t => DpAll.drop n t
theorem DpAll.set {K : Fg} {H : Hp} {v : V} {d : D} (r : Dp K H v d) : ∀ {xs : List V} {ds : List D} (i : Nat), DpAll K H xs ds → DpAll K H (xs.set i v) (ds.set i d)
  | _, _, _, .nil => .nil
  | _, _, 0, .cons _ t => .cons r t
  | _, _, i + 1, .cons q t => .cons q (DpAll.set r i t)
theorem DpAll.eraseIdx {K : Fg} {H : Hp} : ∀ {xs : List V} {ds : List D} (i : Nat), DpAll K H xs ds → DpAll K H (xs.eraseIdx i) (ds.eraseIdx i)
  | _, _, _, .nil => .nil
  | _, _, 0, .cons _ t => t
  | _, _, i + 1, .cons q t => .cons q (DpAll.eraseIdx i t)
theorem DpAll.dropLast {K : Fg} {H : Hp} : ∀ {xs : List V} {ds : List D}, DpAll K H xs ds → DpAll K H xs.dropLast ds.dropLast
  | _, _, .nil => .nil
  | _, _, .cons r .nil => .nil
  | _, _, .cons r (.cons q t) => .cons r (DpAll.dropLast (.cons q t))
theorem DpAll.reverse {K : Fg} {H : Hp} : ∀ {xs : List V} {ds : List D}, DpAll K H xs ds → DpAll K H xs.reverse ds.reverse
  | _, _, .nil => .nil
  | _, _, .cons r t => by rw [List.reverse_cons, List.reverse_cons]; exact DpAll.append (DpAll.reverse t) (.cons r .nil)
theorem DpAll.cut {K : Fg} {H : Hp} {xs : List V} {ds : List D} (h : DpAll K H xs ds) (lo hi : Option Int) : DpAll K H (cutV xs lo hi) ((ds.drop (HT.sIx ds.length 0 lo)).take (HT.sIx ds.length ds.length hi - HT.sIx ds.length 0 lo)) := by
  unfold cutV
  rw [DpAll.length h]
  exact DpAll.take _ (DpAll.drop _ h)
/-! flat data -/
theorem DpAll.strs {K : Fg} {H : Hp} : ∀ (l : List Str), DpAll K H (l.map V.str) (l.map PyData.str)
  | [] => .nil
  | x :: l => .cons (.str x) (DpAll.strs l)
theorem noDict_ints : ∀ l : List Int, PyData.hasDictAll (l.map PyData.int) = false
  | [] => by simp [PyData.hasDictAll]
  | x :: l => by rw [List.map_cons, PyData.hasDictAll, noDict_ints l]; simp [PyData.hasDict]
theorem DpAll.ints {K : Fg} {H : Hp} : ∀ (l : List Int), DpAll K H (l.map V.int) (l.map PyData.int)
  | [] => .nil
  | x :: l => .cons (.int x) (DpAll.ints l)
theorem DpAll.bls {K : Fg} {H : Hp} : ∀ (l : List Bool), DpAll K H (l.map V.bl) (l.map PyData.bool)
  | [] => .nil
  | x :: l => .cons (.bl x) (DpAll.bls l)
theorem DpAll.strs_inv {K : Fg} {H : Hp} : ∀ {l : List Str} {vs : List V}, DpAll K H vs (l.map PyData.str) → vs = l.map V.str
  | [], _, .nil => rfl
  | x :: l, _, .cons r t => by cases r; rw [DpAll.strs_inv t]; rfl
theorem DpAll.ints_inv {K : Fg} {H : Hp} : ∀ {l : List Int} {vs : List V}, DpAll K H vs (l.map PyData.int) → vs = l.map V.int
  | [], _, .nil => rfl
  | x :: l, _, .cons r t => by cases r; rw [DpAll.ints_inv t]; rfl
theorem DpAll.bls_inv {K : Fg} {H : Hp} : ∀ {l : List Bool} {vs : List V}, DpAll K H vs (l.map PyData.bool) → vs = l.map V.bl
  | [], _, .nil => rfl
  | x :: l, _, .cons r t => by cases r; rw [DpAll.bls_inv t]; rfl
/-! ### from what is known to what stands -/
/-- Hb, H: known, the heap; Hb', H': behind. S: the owned cells that may have changed -/
structure Ny (S : Addr → Prop) (Hb H Hb' H' : Hp) : Prop where
  kb : Ex Hb Hb'
  sub : Ex Hb' H'
  kh : ∀ a o, ¬ S a → H a = some o → H' a = some o
  al : ∀ a, H a ≠ none → H' a ≠ none
  fr : ∀ a, H a ≠ none → Hb a = none → Hb' a = none
abbrev Nx := Ny fun _ => False
theorem Nx.mk' {Hb H Hb' H' : Hp} (kb : Ex Hb Hb') (sub : Ex Hb' H') (kh : Ex H H') (fr : ∀ a, H a ≠ none → Hb a = none → Hb' a = none) : Nx Hb H Hb' H' :=
  ⟨kb, sub, fun a o _ e => kh a o e, fun a e => kh.some' e, fr⟩
theorem Ny.ex {Hb H Hb' H' : Hp} (n : Nx Hb H Hb' H') : Ex H H' := fun a o e => n.kh a o id e
theorem Ny.refl {S : Addr → Prop} {Hb H : Hp} (e : Ex Hb H) : Ny S Hb H Hb H := ⟨.rfl, e, fun _ _ _ h => h, fun _ h => h, fun _ _ h => h⟩
theorem Ny.trans {S : Addr → Prop} {Hb H Hb1 H1 Hb2 H2 : Hp} (a : Ny S Hb H Hb1 H1) (b : Ny S Hb1 H1 Hb2 H2) : Ny S Hb H Hb2 H2 :=
  ⟨a.kb.trans b.kb, b.sub, fun x o s e => b.kh x o s (a.kh x o s e), fun x e => b.al x (a.al x e), fun x e n => b.fr x (a.al x e) (a.fr x e n)⟩
theorem Ny.to {S : Addr → Prop} {Hb H Hb' H' : Hp} (n : Nx Hb H Hb' H') : Ny S Hb H Hb' H' := ⟨n.kb, n.sub, fun a o _ e => n.kh a o id e, n.al, n.fr⟩
/-- what has come to be known is let go -/
theorem Ny.less {S : Addr → Prop} {Hb H Hb' H' : Hp} (n : Ny S Hb H Hb' H') : Ny S Hb H Hb H' := ⟨.rfl, n.kb.trans n.sub, n.kh, n.al, fun _ _ h => h⟩
/-- a new object that is known from now on -/
theorem Nx.new {Hb H : Hp} {p : Addr} {o : HO} (e : Ex Hb H) (h : H p = none) : Nx Hb H (upd Hb p o) (upd H p o) :=
  Nx.mk' (Ex.new (e.free h)) (fun a u q => by
    by_cases z : a = p
    · subst z; rw [upd_same] at q ⊢; exact q
    · rw [upd_ne z] at q ⊢; exact e a u q) (Ex.new h) fun a ha n => by
    have z : a ≠ p := fun z => ha (z ▸ h)
    rw [upd_ne z]
    exact n
/-- a new object that is owned -/
theorem Nx.newOwn {Hb H : Hp} {p : Addr} {o : HO} (e : Ex Hb H) (h : H p = none) : Nx Hb H Hb (upd H p o) := Nx.mk' .rfl (e.trans (Ex.new h)) (Ex.new h) fun _ _ n => n
/-- an owned object comes to be known -/
theorem Ny.know {S : Addr → Prop} {Hb H Hb' H' : Hp} {p : Addr} {o : HO} (n : Ny S Hb H Hb' H') (h0 : H p = none) (h1 : Hb' p = none) (h2 : H' p = some o) : Ny S Hb H (upd Hb' p o) H' :=
  ⟨n.kb.trans (Ex.new h1), upd_ex n.sub h2, n.kh, n.al, fun a ha e => by
    have z : a ≠ p := fun z => ha (z ▸ h0)
    rw [upd_ne z]
    exact n.fr a ha e⟩
/-- the union of what is known by two ways -/
def join (A B : Hp) : Hp := fun a => match A a with
  | some o => some o
  | none => B a
theorem join_l {A B : Hp} : Ex A (join A B) := fun a o e => by unfold join; rw [e]
theorem join_r {A B H : Hp} (h1 : Ex A H) (h2 : Ex B H) : Ex B (join A B) := fun a o e => by
  unfold join
  cases q : A a with
  | none => exact e
  | some u =>
    have z := (h1 a u q).symm.trans (h2 a o e)
    exact z
theorem join_sub {A B H : Hp} (h1 : Ex A H) (h2 : Ex B H) : Ex (join A B) H := fun a o e => by
  unfold join at e
  cases q : A a with
  | none => rw [q] at e; exact h2 a o e
  | some u => rw [q] at e; rw [← Option.some.inj e]; exact h1 a u q
theorem Nx.base {S : Addr → Prop} {Hb H Hb1 H1 Hb0 : Hp} (n : Ny S Hb H Hb1 H1) (e : Ex Hb Hb0) (e0 : Ex Hb0 H) (h1 : Ex Hb0 H1) : Ny S Hb0 H (join Hb0 Hb1) H1 :=
  ⟨join_l, join_sub h1 n.sub, n.kh, n.al, fun a ha z => by
    unfold join
    rw [z]
    exact n.fr a ha (e.free z)⟩
end Ol
set_option Elab.async false
set_option linter.all false
set_option maxRecDepth 100000
set_option maxHeartbeats 4000000
/-! own: what the code computes, as plain functions over slots; objects that one slot alone holds; and how such functions stand to the layer's readings -/
namespace Ol
open PySem PySem.Spec PyProof.Rows L2
/-- an object that can change -/
inductive Ob where
  | lst (xs : List D) | set (ks : List Key) | dic (kvs : List (Key × D)) | dit (kvs : List (List Str × D))
/-- a slot: data, or an object that it alone holds (pin: a parameter's) -/
inductive SV where
  | d (x : D) | own (pin : Bool) (o : Ob)
/-- a value on the way -/
inductive PV where
  | d (x : D) | new (o : Ob) | slot (i : Nat) | tup (xs : List PV)
abbrev Env := List (Option SV)
/-- a value as it is read -/
inductive RV where
  | d (x : D) | s (ks : List Key) | m (kvs : List (Key × D)) | t (kvs : List (List Str × D))
abbrev ME := Env → Option (PV × Env)
abbrev MT := Env → Option (Bool × Env)
abbrev MA := Env → Option (List PV × Env)
abbrev Fn := List SV → Option (PV × List (Option Ob))
inductive Rs where
  | nx (e : Env) | ret (v : PV) (e : Env) | bk (e : Env) | ct (e : Env)
abbrev MS := Env → Option Rs
@[simp] def Ob.rv : Ob → RV
  | .lst xs => .d (.list xs)
  | .set ks => .s ks
  | .dic kvs => .m kvs
  | .dit kvs => .t kvs
@[simp] def sget : Env → Nat → Option SV
  | [], _ => none
  | x :: _, 0 => x
  | _ :: r, n + 1 => sget r n
@[simp] def sset : Env → Nat → Option SV → Env
  | [], _, _ => []
  | _ :: r, 0, y => y :: r
  | x :: r, n + 1, y => x :: sset r n y
theorem sget_set_ne {x : Option SV} : ∀ {e : Env} {i j : Nat}, i ≠ j → sget (sset e i x) j = sget e j
  | [], _, _, _ => rfl
  | _ :: _, 0, 0, h => absurd rfl h
  | _ :: _, 0, _ + 1, _ => rfl
  | _ :: _, _ + 1, 0, _ => rfl
  | _ :: r, i + 1, j + 1, h => sget_set_ne (e := r) fun z => h (congrArg Nat.succ z)
theorem sget_set_some {x : Option SV} {sv : SV} : ∀ {e : Env} {i : Nat}, sget (sset e i x) i = some sv → x = some sv
  | [], _, h => by cases h
  | _ :: _, 0, h => h
  | _ :: r, i + 1, h => sget_set_some (e := r) (i := i) h
theorem sget_set_self {x : Option SV} : ∀ {e : Env} {i : Nat}, i < e.length → sget (sset e i x) i = x
  | [], _, h => by simp at h
  | _ :: _, 0, _ => rfl
  | _ :: r, i + 1, h => sget_set_self (e := r) (i := i) (by simpa using h)
theorem sset_length {x : Option SV} : ∀ {e : Env} {i : Nat}, (sset e i x).length = e.length
  | [], _ => rfl
  | _ :: _, 0 => rfl
  | _ :: r, i + 1 => congrArg Nat.succ (sset_length (e := r) (i := i))
@[simp] def rd (env : Env) : PV → Option RV
  | .d x => some (.d x)
  | .new o => some o.rv
  | .slot i => match sget env i with
    | some (.own _ o) => some o.rv
    | _ => none
  | .tup _ => none
/-- put into a container, for good -/
@[simp] def fz : PV → Option D
  | .d x => some x
  | .new (.lst xs) => some (.list xs)
  | _ => none
@[simp] def fzs : List PV → Option (List D)
  | [] => some []
  | x :: r => (fz x).bind fun d => (fzs r).bind fun ds => some (d :: ds)
structure Zn where
  K : Fg
  P : Program
  w : World
abbrev zn (X : Cx) : Zn := ⟨X.K, X.prog, X.w⟩
/-- the keys of a dict with tuple keys are told, its values are data -/
inductive DtR (K : Fg) (Hb : Hp) : KE3 → List (List Str × D) → Prop
  | nil : DtR K Hb [] []
  | cons {k : List Str} {b : Addr} {v : V} {d : D} {ks : KE3} {kvs : List (List Str × D)} : Dp K Hb (.ref b) (.tuple (k.map .str)) → Dp K Hb v d → DtR K Hb ks kvs → DtR K Hb ((k.map .inr, b, v) :: ks) ((k, d) :: kvs)
theorem DtR.ex {K : Fg} {Hb Hb' : Hp} (e : Ex Hb Hb') {ks : KE3} {kvs : List (List Str × D)} (r : DtR K Hb ks kvs) : DtR K Hb' ks kvs := by
  induction r with
  | nil => exact .nil
  | cons a b _ ih => exact .cons (Dp.ex e a) (Dp.ex e b) ih
inductive OwnR (Z : Zn) (Hb H : Hp) (p : Addr) : Ob → Prop
  | lst {ds xs} : H p = some (.lst xs) → DpAll Z.K Hb xs ds → OwnR Z Hb H p (.lst ds)
  | set {ks} : H p = some (SetK Z.P Z.w p (memb ks) (dist ks).length) → OwnR Z Hb H p (.set ks)
  | dic {kvs} {us : List (Key × V)} : H p = some (.dK us) → us.map (·.1) = kvs.map (·.1) → DpAll Z.K Hb (us.map (·.2)) (kvs.map (·.2)) → OwnR Z Hb H p (.dic kvs)
  | dit {kvs ks} : H p = some (DtO Z.P Z.w p ks) → DtR Z.K Hb ks kvs → OwnR Z Hb H p (.dit kvs)
inductive RdR (Z : Zn) (Hb H : Hp) : V → RV → Prop
  | non : RdR Z Hb H .non (.d .none)
  | bl (b : Bool) : RdR Z Hb H (.bl b) (.d (.bool b))
  | int (i : Int) : RdR Z Hb H (.int i) (.d (.int i))
  | str (x : Str) : RdR Z Hb H (.str x) (.d (.str x))
  | lst {p xs ds} : SqL Z.K H p xs → DpAll Z.K Hb xs ds → RdR Z Hb H (.ref p) (.d (.list ds))
  | tup {p xs ds} : SqT Z.K Hb p xs → DpAll Z.K Hb xs ds → (ds.all isS = true → NoD Hb p) → RdR Z Hb H (.ref p) (.d (.tuple ds))
  | dic {p} : H p = some (.dK []) → RdR Z Hb H (.ref p) (.d (.dict []))
  | s {p ks} : OwnR Z Hb H p (.set ks) → RdR Z Hb H (.ref p) (.s ks)
  | m {p kvs} : OwnR Z Hb H p (.dic kvs) → RdR Z Hb H (.ref p) (.m kvs)
  | t {p kvs} : OwnR Z Hb H p (.dit kvs) → RdR Z Hb H (.ref p) (.t kvs)
/-- the call's entry: what was known, the heap, the parameters' own cells -/
structure Bs where
  Hb0 : Hp
  H0 : Hp
  P : Nat → Addr → Prop
def Bs.S (B : Bs) (p : Addr) : Prop := ∃ i, B.P i p
def SlotR (Z : Zn) (B : Bs) (Hb H : Hp) (σ : L2.St) (i : Nat) : SV → Prop
  | .d x => ∃ v, σ[i]? = some (some v) ∧ Dp Z.K Hb v x
  | .own b o => ∃ p, σ[i]? = some (some (.ref p)) ∧ Hb p = none ∧ OwnR Z Hb H p o ∧ (b = true → B.P i p) ∧ (b = false → B.H0 p = none)
structure Sta (Z : Zn) (B : Bs) (Hb H : Hp) (σ : L2.St) (env : Env) : Prop where
  ny : Ny B.S B.Hb0 B.H0 Hb H
  sl : ∀ i sv, sget env i = some sv → SlotR Z B Hb H σ i sv
  df : ∀ i j p b o b' o', sget env i = some (.own b o) → sget env j = some (.own b' o') → σ[i]? = some (some (.ref p)) → σ[j]? = some (some (.ref p)) → i = j
  len : σ.length = env.length
def Ow (env : Env) (σ : L2.St) (p : Addr) : Prop := ∃ i b o, sget env i = some (.own b o) ∧ σ[i]? = some (some (.ref p))
mutual
/-- H0: the heap ahead of the evaluation -/
inductive VR (Z : Zn) (H0 Hb H : Hp) (σ : L2.St) : V → PV → Prop
  | d {v x} : Dp Z.K Hb v x → VR Z H0 Hb H σ v (.d x)
  | new {p o} : H0 p = none → Hb p = none → OwnR Z Hb H p o → VR Z H0 Hb H σ (.ref p) (.new o)
  | slot {v i} : σ[i]? = some (some v) → VR Z H0 Hb H σ v (.slot i)
  | tup {a vs xs ps} : SqT Z.K Hb a vs → VRs Z H0 Hb H σ vs xs ps → VR Z H0 Hb H σ (.ref a) (.tup xs)
inductive VRs (Z : Zn) (H0 Hb H : Hp) (σ : L2.St) : List V → List PV → List Addr → Prop
  | nil : VRs Z H0 Hb H σ [] [] []
  | d {v x vs xs ps} : Dp Z.K Hb v x → VRs Z H0 Hb H σ vs xs ps → VRs Z H0 Hb H σ (v :: vs) (.d x :: xs) ps
  | new {p o vs xs ps} : H0 p = none → Hb p = none → OwnR Z Hb H p o → p ∉ ps → VRs Z H0 Hb H σ vs xs ps → VRs Z H0 Hb H σ (.ref p :: vs) (.new o :: xs) (p :: ps)
  | slot {v i vs xs ps} : σ[i]? = some (some v) → VRs Z H0 Hb H σ vs xs ps → VRs Z H0 Hb H σ (v :: vs) (.slot i :: xs) ps
end
structure Go (Z : Zn) (B : Bs) (σ : L2.St) (env : Env) (Hb H : Hp) (env' : Env) (Hb' H' : Hp) : Prop where
  ny : Ny (Ow env σ) Hb H Hb' H'
  st : Sta Z B Hb' H' σ env'
  ow : ∀ p, Ow env' σ p → Ow env σ p
def tI (Z : Zn) (m : ME) : TE := fun σ H Q => ∃ B Hb env pv env', Sta Z B Hb H σ env ∧ m env = some (pv, env') ∧ ∀ v Hb' H', Go Z B σ env Hb H env' Hb' H' → VR Z H Hb' H' σ v pv → Q v H'
def tIT (Z : Zn) (m : MT) : TT := fun σ H Q => ∃ B Hb env b env', Sta Z B Hb H σ env ∧ m env = some (b, env') ∧ ∀ Hb' H', Go Z B σ env Hb H env' Hb' H' → Q b H'
def tIA (Z : Zn) (m : MA) : TA := fun σ H Q => ∃ B Hb env pvs env', Sta Z B Hb H σ env ∧ m env = some (pvs, env') ∧ ∀ vs ps Hb' H', Go Z B σ env Hb H env' Hb' H' → VRs Z H Hb' H' σ vs pvs ps → Q vs H'
section
variable {Z : Zn} {B : Bs} {Hb H Hb1 H1 Hb' H' H0 : Hp} {σ : L2.St} {env env1 env' : Env} {p : Addr} {o : Ob} {v : V} {pv : PV} {vs : List V} {pvs : List PV} {ps : List Addr}
theorem OwnR.some (h : OwnR Z Hb H p o) : H p ≠ none := by
  cases h with
  | lst e _ => rw [e]; simp
  | set e => rw [e]; simp
  | dic e _ _ => rw [e]; simp
  | dit e _ => rw [e]; simp
theorem OwnR.at (h : OwnR Z Hb H p o) (e : Ex Hb Hb') (k : ∀ u, H p = Option.some u → H' p = Option.some u) : OwnR Z Hb' H' p o := by
  cases h with
  | lst q r => exact .lst (k _ q) (DpAll.ex e r)
  | set q => exact .set (k _ q)
  | dic q z r => exact .dic (k _ q) z (DpAll.ex e r)
  | dit q r => exact .dit (k _ q) (r.ex e)
theorem Ow.some (st : Sta Z B Hb H σ env) (h : Ow env σ p) : H p ≠ none ∧ Hb p = none := by
  obtain ⟨i, b, o, h1, h2⟩ := h
  obtain ⟨q, e, n, r, _⟩ := st.sl i _ h1
  rw [h2] at e
  cases e
  exact ⟨r.some, n⟩
theorem Sta.sub (st : Sta Z B Hb H σ env) : Ex Hb H := st.ny.sub
/-- behind a step that leaves the slots' own cells as they are -/
theorem Sta.step (st : Sta Z B Hb H σ env) (n : Nx Hb H Hb' H') : Sta Z B Hb' H' σ env :=
  ⟨st.ny.trans n.to, fun i sv e => by
    have q := st.sl i sv e
    cases sv with
    | d x => obtain ⟨v, h1, h2⟩ := q; exact ⟨v, h1, Dp.ex n.kb h2⟩
    | own b o => obtain ⟨p, h1, h2, h3, h4⟩ := q; exact ⟨p, h1, n.fr p h3.some h2, h3.at n.kb fun u z => n.kh _ _ id z, h4⟩, st.df, st.len⟩
theorem Go.refl (st : Sta Z B Hb H σ env) : Go Z B σ env Hb H env Hb H := ⟨.refl st.sub, st, fun _ h => h⟩
theorem Ny.mono {S T : Addr → Prop} (n : Ny S Hb H Hb' H') (h : ∀ a, S a → T a) : Ny T Hb H Hb' H' := ⟨n.kb, n.sub, fun a o s e => n.kh a o (fun z => s (h a z)) e, n.al, n.fr⟩
theorem Go.trans (g : Go Z B σ env Hb H env1 Hb1 H1) (g' : Go Z B σ env1 Hb1 H1 env' Hb' H') : Go Z B σ env Hb H env' Hb' H' :=
  ⟨g.ny.trans (g'.ny.mono g.ow), g'.st, fun p h => g.ow p (g'.ow p h)⟩
theorem Go.nx (g : Go Z B σ env Hb H env1 Hb1 H1) (n : Nx Hb1 H1 Hb' H') : Go Z B σ env Hb H env1 Hb' H' := ⟨g.ny.trans n.to, g.st.step n, g.ow⟩
theorem Ny.base {S T : Addr → Prop} {Hb0 : Hp} (a : Ny S Hb0 H0 Hb H) (b : Ny T Hb H Hb' H') (h : ∀ p, T p → ¬ S p → H0 p = none) : Ny S Hb0 H0 Hb' H' :=
  ⟨a.kb.trans b.kb, b.sub, fun x o s e => b.kh x o (fun t => by rw [h x t s] at e; cases e) (a.kh x o s e), fun x e => b.al x (a.al x e), fun x e n => b.fr x (a.al x e) (a.fr x e n)⟩
theorem Sta.own0 (st : Sta Z B Hb H σ env) : ∀ p, Ow env σ p → ¬ B.S p → B.H0 p = none := fun p ⟨i, b, o, h1, h2⟩ ns => by
  obtain ⟨q, e, _, _, t, f⟩ := st.sl i _ h1
  rw [h2] at e
  cases e
  cases b with
  | true => exact absurd ⟨i, t rfl⟩ ns
  | false => exact f rfl
/-- a value that is told stays told -/
theorem VR.keep (h0 : ∀ p, Ow env σ p → H0 p ≠ none) (n : Ny (Ow env σ) Hb H Hb' H') : VR Z H0 Hb H σ v pv → VR Z H0 Hb' H' σ v pv := by
  have lists : ∀ {vs : List V} {pvs : List PV} {ps : List Addr}, VRs Z H0 Hb H σ vs pvs ps → VRs Z H0 Hb' H' σ vs pvs ps := by
    intro vs pvs
    induction pvs generalizing vs with
    | nil => intro ps h; cases h; exact .nil
    | cons x r ih =>
      intro ps h
      cases h with
      | d a t => exact .d (Dp.ex n.kb a) (ih t)
      | new a b c e t => exact .new a (n.fr _ c.some b) (c.at n.kb fun u z => n.kh _ _ (fun s => h0 _ s a) z) e (ih t)
      | slot a t => exact .slot a (ih t)
  intro h
  cases h with
  | d a => exact .d (Dp.ex n.kb a)
  | new a b c => exact .new a (n.fr _ c.some b) (c.at n.kb fun u z => n.kh _ _ (fun s => h0 _ s a) z)
  | slot a => exact .slot a
  | tup a t => exact .tup (sqt_ex n.kb a) (lists t)
theorem VRs.keep (h0 : ∀ p, Ow env σ p → H0 p ≠ none) (n : Ny (Ow env σ) Hb H Hb' H') : ∀ {pvs : List PV} {vs : List V} {ps : List Addr}, VRs Z H0 Hb H σ vs pvs ps → VRs Z H0 Hb' H' σ vs pvs ps
  | [], _, _, h => by cases h; exact .nil
  | _ :: _, _, _, h => by
    cases h with
    | d a t => exact .d (Dp.ex n.kb a) (VRs.keep h0 n t)
    | new a b c e t => exact .new a (n.fr _ c.some b) (c.at n.kb fun u z => n.kh _ _ (fun s => h0 _ s a) z) e (VRs.keep h0 n t)
    | slot a t => exact .slot a (VRs.keep h0 n t)
/-- .. from an earlier start, without slots -/
theorem VRs.from {H2 : Hp} (h : ∀ p, H2 p = none → H0 p = none) : ∀ {pvs : List PV} {vs : List V} {ps : List Addr}, VRs Z H2 Hb H σ vs pvs ps → VRs Z H0 Hb H σ vs pvs ps
  | [], _, _, q => by cases q; exact .nil
  | _ :: _, _, _, q => by
    cases q with
    | d a t => exact .d a (VRs.from h t)
    | new a b c e t => exact .new (h _ a) b c e (VRs.from h t)
    | slot a t => exact .slot a (VRs.from h t)
theorem VR.from {H2 : Hp} (h : ∀ p, H2 p = none → H0 p = none) (q : VR Z H2 Hb H σ v pv) : VR Z H0 Hb H σ v pv := by
  cases q with
  | d a => exact .d a
  | new a b c => exact .new (h _ a) b c
  | slot a => exact .slot a
  | tup a t => exact .tup a (VRs.from h t)
theorem VRs.anyσ : ∀ {pvs : List PV} {vs : List V} {ps : List Addr}, VRs Z H0 Hb H [] vs pvs ps → VRs Z H0 Hb H σ vs pvs ps
  | [], _, _, q => by cases q; exact .nil
  | _ :: _, _, _, q => by
    cases q with
    | d a t => exact .d a (VRs.anyσ t)
    | new a b c e t => exact .new a b c e (VRs.anyσ t)
    | slot a t => simp at a
theorem VR.anyσ (q : VR Z H0 Hb H [] v pv) : VR Z H0 Hb H σ v pv := by
  cases q with
  | d a => exact .d a
  | new a b c => exact .new a b c
  | slot a => simp at a
  | tup a t => exact .tup a (VRs.anyσ t)
theorem Ny.back {S : Addr → Prop} (n : Ny S Hb H Hb' H') : ∀ p, H' p = none → H p = none := fun p e => by
  cases q : H p with
  | none => rfl
  | some o => exact absurd e (n.al p (by rw [q]; simp))
theorem OwnR.rdr (h : OwnR Z Hb H p o) : RdR Z Hb H (.ref p) o.rv := by
  cases h with
  | lst e r => exact .lst (.inl (.of e)) r
  | set e => exact .s (.set e)
  | dic e z r => exact .m (.dic e z r)
  | dit e r => exact .t (.dit e r)
theorem RdR.ofDp (e : Ex Hb H) {x : D} (h : Dp Z.K Hb v x) : RdR Z Hb H v (.d x) := by
  cases h with
  | lst a b => exact .lst (sql_ex e a) b
  | non => exact .non
  | bl b => exact .bl b
  | int i => exact .int i
  | str x => exact .str x
  | tup a b n => exact .tup a b n
  | dic a => exact .dic (e _ _ a)
theorem RdR.dp (e : Ex Hb H) {x : D} (h : RdR Z Hb H v (.d x)) : Dp Z.K H v x := by
  cases h with
  | lst a b => exact .lst a (DpAll.ex e b)
  | non => exact .non
  | bl b => exact .bl b
  | int i => exact .int i
  | str x => exact .str x
  | tup a b n => exact .tup (sqt_ex e a) (DpAll.ex e b) fun z => (n z).ex e
  | dic a => exact .dic a
theorem VR.rd (st : Sta Z B Hb H σ env) (h : VR Z H0 Hb H σ v pv) {r : RV} (e : rd env pv = some r) : RdR Z Hb H v r := by
  cases h with
  | d a => cases e; exact .ofDp st.sub a
  | new a b c => cases e; exact c.rdr
  | slot a =>
    rename_i i
    simp only [Ol.rd] at e
    cases q : sget env i with
    | none => simp [q] at e
    | some sv =>
      rw [q] at e
      cases sv with
      | d x => simp at e
      | own b o =>
        have e' : o.rv = r := Option.some.inj e
        subst e'
        obtain ⟨p, h1, h2, h3, _⟩ := st.sl i _ q
        rw [h1] at a
        cases a
        exact h3.rdr
  | tup a t => cases e
end
theorem pe_mono {X : Cx} {e : Expr} {t t' : TE} (h : PE X e t) (hw : ∀ σ H Q, t' σ H Q → t σ H Q) : PE X e t' := ⟨fun pins s σ H Q I q => h.run pins s σ H Q I (hw σ H Q q)⟩
theorem pt_mono {X : Cx} {e : Expr} {t t' : TT} (h : PT X e t) (hw : ∀ σ H Q, t' σ H Q → t σ H Q) : PT X e t' := ⟨fun pins s σ H Q I q => h.run pins s σ H Q I (hw σ H Q q)⟩
theorem pw_mono {X : Cx} {e : Expr} {t t' : TT} (h : PW X e t) (hw : ∀ σ H Q, t' σ H Q → t σ H Q) : PW X e t' := ⟨fun w pins s σ H Q I q => h.run w pins s σ H Q I (hw σ H Q q)⟩
theorem pa_mono {X : Cx} {es : List Expr} {t t' : TA} (h : PA X es t) (hw : ∀ σ H Q, t' σ H Q → t σ H Q) : PA X es t' := ⟨fun pos pins s σ H Q I q => h.run pos pins s σ H Q I (hw σ H Q q)⟩
theorem ps_mono {X : Cx} {st : Stmt} {t t' : TS} (h : PS X st t) (hw : ∀ D σ H, t' D σ H → t D σ H) : PS X st t' := ⟨fun pins s σ H D I q => h.run pins s σ H D I (hw D σ H q)⟩
theorem pss_mono {X : Cx} {st : List Stmt} {t t' : TS} (h : PSs X st t) (hw : ∀ D σ H, t' D σ H → t D σ H) : PSs X st t' := ⟨fun pins s σ H D I q => h.run pins s σ H D I (hw D σ H q)⟩
/-! ### expressions -/
@[simp] def mVar (i : Nat) : ME := fun env => match sget env i with
  | some (.d x) => some (.d x, env)
  | some (.own _ _) => some (.slot i, env)
  | none => none
@[simp] def mC (x : D) : ME := fun env => some (.d x, env)
@[simp] def m1 (f : RV → Option PV) (a : ME) : ME := fun env => (a env).bind fun x => (rd x.2 x.1).bind fun r => (f r).bind fun p => some (p, x.2)
@[simp] def m2 (f : RV → RV → Option PV) (a b : ME) : ME := fun env => (a env).bind fun x => (b x.2).bind fun y => (rd y.2 x.1).bind fun r => (rd y.2 y.1).bind fun t => (f r t).bind fun p => some (p, y.2)
@[simp] def mNil : MA := fun env => some ([], env)
@[simp] def flt : PV → Option PV
  | .tup _ => none
  | x => some x
@[simp] def mCons (a : ME) (r : MA) : MA := fun env => (a env).bind fun x => (flt x.1).bind fun p => (r x.2).bind fun ys => some (p :: ys.1, ys.2)
@[simp] def rds (env : Env) : List PV → Option (List RV)
  | [] => some []
  | x :: r => (rd env x).bind fun d => (rds env r).bind fun ds => some (d :: ds)
/-- a builtin of values -/
@[simp] def mB (f : List RV → Option PV) (a : MA) : ME := fun env => (a env).bind fun xs => (rds xs.2 xs.1).bind fun rs => (f rs).bind fun p => some (p, xs.2)
@[simp] def mTup (a : MA) : ME := fun env => (a env).bind fun xs => (fzs xs.1).bind fun ds => if ds.length ≤ 100000 then some (.d (.tuple ds), xs.2) else none
@[simp] def mLst (a : MA) : ME := fun env => (a env).bind fun xs => (fzs xs.1).bind fun ds => if ds.length ≤ 100000 then some (.new (.lst ds), xs.2) else none
@[simp] def tru : RV → Option Bool
  | .d .none => some false
  | .d (.bool b) => some b
  | .d (.int i) => some (i != 0)
  | .d (.str x) => if x.length ≤ 100000 then some ((x.length : Int) != 0) else none
  | .d (.list ds) => some !ds.isEmpty
  | .d (.tuple ds) => some !ds.isEmpty
  | .m kvs => some !kvs.isEmpty
  | _ => none
@[simp] def mBo : PV → Option Bool
  | .d (.bool b) => some b
  | _ => none
/-- a value that is a bool, as a test -/
@[simp] def mTest (a : ME) : MT := fun env => (a env).bind fun x => (mBo x.1).bind fun b => some (b, x.2)
/-- any value, as a test -/
@[simp] def mTru (a : ME) : MT := fun env => (a env).bind fun x => (rd x.2 x.1).bind fun r => (tru r).bind fun b => some (b, x.2)
@[simp] def mAndT (a b : MT) : MT := fun env => (a env).bind fun x => if x.1 = true then b x.2 else some (false, x.2)
@[simp] def mOrT (a b : MT) : MT := fun env => (a env).bind fun x => if x.1 = true then some (true, x.2) else b x.2
@[simp] def mNotT (a : MT) : MT := fun env => (a env).bind fun x => some (!x.1, x.2)
@[simp] def mAnd (a b : ME) : ME := fun env => (a env).bind fun x => (mBo x.1).bind fun k => if k = true then b x.2 else some (.d (.bool false), x.2)
@[simp] def mOr (a b : ME) : ME := fun env => (a env).bind fun x => (mBo x.1).bind fun k => if k = true then some (.d (.bool true), x.2) else b x.2
@[simp] def mNot (a : ME) : ME := fun env => (a env).bind fun x => (mBo x.1).bind fun k => some (.d (.bool !k), x.2)
@[simp] def mIf (c : MT) (a b : ME) : ME := fun env => (c env).bind fun x => if x.1 = true then a x.2 else b x.2
@[simp] def mChain (f g : RV → RV → Option PV) (a b c : ME) : ME := fun env => (a env).bind fun x => (b x.2).bind fun y => (rd y.2 x.1).bind fun r => (rd y.2 y.1).bind fun t => (f r t).bind fun p => (mBo p).bind fun k =>
  if k = true then (c y.2).bind fun z => (rd z.2 y.1).bind fun t' => (rd z.2 z.1).bind fun u => (g t' u).bind fun p' => some (p', z.2) else some (.d (.bool false), y.2)
/-- a two-place rule computes f -/
def Op2 (Z : Zn) (r : R2) (f : RV → RV → Option PV) : Prop := ∀ Hb H x y dx dy pv, Ex Hb H → RdR Z Hb H x dx → RdR Z Hb H y dy → f dx dy = some pv → ∀ Q : VK, (∀ v Hb' H', Nx Hb H Hb' H' → VR Z H Hb' H' [] v pv → Q v H') → r x y H Q
def Op1 (Z : Zn) (r : V → Hp → VK → Prop) (f : RV → Option PV) : Prop := ∀ Hb H x dx pv, Ex Hb H → RdR Z Hb H x dx → f dx = some pv → ∀ Q : VK, (∀ v Hb' H', Nx Hb H Hb' H' → VR Z H Hb' H' [] v pv → Q v H') → r x H Q
inductive RdRs (Z : Zn) (Hb H : Hp) : List V → List RV → Prop
  | nil : RdRs Z Hb H [] []
  | cons {v vs r rs} : RdR Z Hb H v r → RdRs Z Hb H vs rs → RdRs Z Hb H (v :: vs) (r :: rs)
def OpN (Z : Zn) (r : List V → Hp → VK → Prop) (f : List RV → Option PV) : Prop := ∀ Hb H vs rs pv, Ex Hb H → RdRs Z Hb H vs rs → f rs = some pv → ∀ Q : VK, (∀ v Hb' H', Nx Hb H Hb' H' → VR Z H Hb' H' [] v pv → Q v H') → r vs H Q
section
variable {Z : Zn} {a b c : ME} {f g : RV → RV → Option PV} {σ : L2.St} {H : Hp} {Q : VK}
theorem own_some {B : Bs} {Hb : Hp} {env : Env} (st : Sta Z B Hb H σ env) : ∀ p, Ow env σ p → H p ≠ none := fun p h => (h.some st).1
theorem re_m1 {r : V → Hp → VK → Prop} {f : RV → Option PV} (hr : Op1 Z r f) (h : tI Z (m1 f a) σ H Q) : tUn r (tI Z a) σ H Q := by
  obtain ⟨B, Hb, env, pv, env', st, e, q⟩ := h
  simp only [m1, Option.bind_eq_some_iff] at e
  obtain ⟨⟨x, e1⟩, ha, r1, h1, p, h2, h3⟩ := e
  cases h3
  exact ⟨B, Hb, env, x, _, st, ha, fun v Hb' H' g1 rv => hr Hb' H' v r1 _ g1.st.sub (rv.rd g1.st h1) h2 Q fun w Hb2 H2 n rw => q w Hb2 H2 (g1.nx n) (rw.anyσ.from (g1.ny.back))⟩
theorem re_m2 {r : R2} (hr : Op2 Z r f) (h : tI Z (m2 f a b) σ H Q) : tOp r (tI Z a) (tI Z b) σ H Q := by
  obtain ⟨B, Hb, env, pv, env', st, e, q⟩ := h
  simp only [m2, Option.bind_eq_some_iff] at e
  obtain ⟨⟨x, e1⟩, ha, ⟨y, e2⟩, hb, r1, h1, r2, h2, p, h3, h4⟩ := e
  cases h4
  refine ⟨B, Hb, env, x, e1, st, ha, fun v1 Hb1 H1 g1 rv1 => ⟨B, Hb1, e1, y, _, g1.st, hb, fun v2 Hb2 H2 g2 rv2 => ?_⟩⟩
  have rv1' := rv1.keep (fun p hp => own_some st p (g1.ow p hp)) g2.ny
  exact hr Hb2 H2 v1 v2 r1 r2 _ g2.st.sub (rv1'.rd g2.st h1) (rv2.rd g2.st h2) h3 Q fun w Hb3 H3 n rw => q w Hb3 H3 ((g1.trans g2).nx n) (rw.anyσ.from (g1.trans g2).ny.back)
theorem re_var {i : Nat} (h : tI Z (mVar i) σ H Q) : tVar i σ H Q := by
  obtain ⟨B, Hb, env, pv, env', st, e, q⟩ := h
  unfold mVar at e
  cases z : sget env i with
  | none => rw [z] at e; cases e
  | some sv =>
    rw [z] at e
    cases sv with
    | d x =>
      cases e
      obtain ⟨v, h1, h2⟩ := st.sl i _ z
      exact ⟨v, h1, q v Hb H (.refl st) (.d h2)⟩
    | own b o =>
      cases e
      obtain ⟨p, h1, _⟩ := st.sl i _ z
      exact ⟨_, h1, q _ Hb H (.refl st) (.slot h1)⟩
theorem re_c {x : D} {v : V} (hv : ∀ Hb, Dp Z.K Hb v x) (h : tI Z (mC x) σ H Q) : tC v σ H Q := by
  obtain ⟨B, Hb, env, pv, env', st, e, q⟩ := h
  cases e
  exact q v Hb H (.refl st) (.d (hv Hb))
theorem re_nil {Q : List V → Hp → Prop} (h : tIA Z mNil σ H Q) : tNil σ H Q := by
  obtain ⟨B, Hb, env, pv, env', st, e, q⟩ := h
  cases e
  exact q [] [] Hb H (.refl st) .nil
theorem VRs.fresh {H0 Hb : Hp} : ∀ {pvs : List PV} {vs : List V} {ps : List Addr}, VRs Z H0 Hb H σ vs pvs ps → ∀ p ∈ ps, H0 p = none
  | [], _, _, h => by cases h; simp
  | _ :: _, _, _, h => by
    cases h with
    | d a t => exact t.fresh
    | new a b c e t => intro p hp; rcases List.mem_cons.mp hp with z | z; exact z ▸ a; exact t.fresh p z
    | slot a t => exact t.fresh
theorem re_cons {r : MA} {Q : List V → Hp → Prop} (h : tIA Z (mCons a r) σ H Q) : tCons (tI Z a) (tIA Z r) σ H Q := by
  obtain ⟨B, Hb, env, pv, env', st, e, q⟩ := h
  simp only [mCons, Option.bind_eq_some_iff] at e
  obtain ⟨⟨x, e1⟩, ha, p0, h0, ⟨ys, e2⟩, hb, h4⟩ := e
  cases h4
  refine ⟨B, Hb, env, x, e1, st, ha, fun v1 Hb1 H1 g1 rv1 => ⟨B, Hb1, e1, ys, _, g1.st, hb, fun vs ps Hb2 H2 g2 rv2 => ?_⟩⟩
  have hx : x = p0 := by cases x <;> first | (cases h0; rfl) | cases h0
  subst hx
  have rv1' := rv1.keep (fun p hp => own_some st p (g1.ow p hp)) g2.ny
  have rv2' := rv2.from (H0 := H) g1.ny.back
  cases rv1' with
  | d z => exact q _ ps Hb2 H2 (g1.trans g2) (.d z rv2')
  | new z1 z2 z3 =>
    rename_i p o
    refine q _ (p :: ps) Hb2 H2 (g1.trans g2) (.new z1 z2 z3 (fun hp => ?_) rv2')
    cases rv1 with
    | new y1 y2 y3 => exact y3.some (rv2.fresh p hp)
  | slot z => exact q _ ps Hb2 H2 (g1.trans g2) (.slot z rv2')
  | tup z t => cases h0
end
end Ol
set_option Elab.async false
set_option linter.all false
set_option maxRecDepth 100000
set_option maxHeartbeats 4000000
/-! own: displays, tests, calls -/
namespace Ol
open PySem PySem.Spec PyProof.Rows L2
section
variable {Z : Zn} {B : Bs} {Hb H Hb1 H1 Hb2 Hb' H' H0 : Hp} {σ : L2.St} {env env1 env' : Env} {p : Addr} {o : Ob} {v : V} {pv : PV}
/-- more is known of what stands -/
structure Kn (H0 Hb H Hb' : Hp) : Prop where
  kb : Ex Hb Hb'
  sub : Ex Hb' H
  fr : ∀ a, H0 a ≠ none → Hb a = none → Hb' a = none
theorem Go.know (st : Sta Z B Hb H σ env) (g : Go Z B σ env Hb H env1 Hb1 H1) (k : Kn H Hb1 H1 Hb2) : Go Z B σ env Hb H env1 Hb2 H1 := by
  refine ⟨⟨g.ny.kb.trans k.kb, k.sub, g.ny.kh, g.ny.al, fun a h1 h2 => k.fr a h1 (g.ny.fr a h1 h2)⟩, ⟨⟨g.st.ny.kb.trans k.kb, k.sub, g.st.ny.kh, g.st.ny.al, fun a h1 h2 => k.fr a (st.ny.al a h1) (g.st.ny.fr a h1 h2)⟩, fun i sv e => ?_, g.st.df, g.st.len⟩, g.ow⟩
  have q := g.st.sl i sv e
  cases sv with
  | d x => obtain ⟨v, h1, h2⟩ := q; exact ⟨v, h1, Dp.ex k.kb h2⟩
  | own b o =>
    obtain ⟨p, h1, h2, h3, h4⟩ := q
    exact ⟨p, h1, k.fr p (own_some st p (g.ow p ⟨i, b, o, e, h1⟩)) h2, h3.at k.kb fun _ z => z, h4⟩
theorem VRs.know (e : Ex Hb H) : ∀ {pvs : List PV} {vs : List V} {ps : List Addr} {ds : List D}, VRs Z H0 Hb H σ vs pvs ps → fzs pvs = some ds → ∃ Hb', Kn H0 Hb H Hb' ∧ (∀ a, a ∉ ps → Hb' a = Hb a) ∧ DpAll Z.K Hb' vs ds
  | [], _, _, _, h, f => by
    cases h
    cases f
    exact ⟨Hb, ⟨.rfl, e, fun _ _ z => z⟩, fun _ _ => rfl, .nil⟩
  | x :: r, _, _, _, h, f => by
    simp only [fzs, Option.bind_eq_some_iff] at f
    obtain ⟨d, f1, ds, f2, f3⟩ := f
    cases f3
    cases h with
    | d a t =>
      obtain ⟨Hb', k, z, q⟩ := VRs.know e t f2
      cases f1
      exact ⟨Hb', k, z, .cons (Dp.ex k.kb a) q⟩
    | new a b c n t =>
      rename_i p o vs ps
      obtain ⟨Hb', k, z, q⟩ := VRs.know e t f2
      cases c with
      | lst c1 c2 =>
        cases f1
        have hn : Hb' p = none := (z p n).trans b
        refine ⟨upd Hb' p _, ⟨k.kb.trans (Ex.new hn), upd_ex k.sub c1, fun y h1 h2 => ?_⟩, fun y hy => ?_, .cons (.lst (.inl (.of upd_same)) (DpAll.ex (k.kb.trans (Ex.new hn)) c2)) (DpAll.ex (Ex.new hn) q)⟩
        · rw [upd_ne (fun w => h1 (by rw [w]; exact a))]
          exact k.fr y h1 h2
        · rw [upd_ne (fun w => hy (by simp [w]))]
          exact z y (fun w => hy (List.mem_cons_of_mem _ w))
      | set _ => cases f1
      | dic _ _ _ => cases f1
      | dit _ _ => cases f1
    | slot a t => cases f1
theorem fzs_len : ∀ {pvs : List PV} {ds : List D}, fzs pvs = some ds → pvs.length = ds.length
  | [], _, f => by cases f; rfl
  | x :: r, _, f => by
    simp only [fzs, Option.bind_eq_some_iff] at f
    obtain ⟨d, f1, ds, f2, f3⟩ := f
    cases f3
    exact congrArg Nat.succ (fzs_len f2)
theorem VRs.len : ∀ {pvs : List PV} {vs : List V} {ps : List Addr}, VRs Z H0 Hb H σ vs pvs ps → vs.length = pvs.length
  | [], _, _, h => by cases h; rfl
  | x :: r, _, _, h => by
    cases h with
    | d a t => exact congrArg Nat.succ t.len
    | new a b c n t => exact congrArg Nat.succ t.len
    | slot a t => exact congrArg Nat.succ t.len
theorem VRs.get : ∀ {pvs : List PV} {vs : List V} {ps : List Addr} {j : Nat} {x : PV}, VRs Z H0 Hb H σ vs pvs ps → pvs[j]? = some x → ∃ v, vs[j]? = some v ∧ VR Z H0 Hb H σ v x
  | [], _, _, j, x, h, e => by simp at e
  | y :: r, _, _, 0, x, h, e => by
    simp at e
    subst e
    cases h with
    | d a t => exact ⟨_, rfl, .d a⟩
    | new a b c n t => exact ⟨_, rfl, .new a b c⟩
    | slot a t => exact ⟨_, rfl, .slot a⟩
  | y :: r, _, _, j + 1, x, h, e => by
    have e' : r[j]? = some x := by simpa using e
    cases h with
    | d a t => obtain ⟨v, h1, h2⟩ := t.get e'; exact ⟨v, by simpa using h1, h2⟩
    | new a b c n t => obtain ⟨v, h1, h2⟩ := t.get e'; exact ⟨v, by simpa using h1, h2⟩
    | slot a t => obtain ⟨v, h1, h2⟩ := t.get e'; exact ⟨v, by simpa using h1, h2⟩
theorem VRs.mem : ∀ {pvs : List PV} {vs : List V} {ps : List Addr} {j : Nat} {o : Ob} {p : Addr}, VRs Z H0 Hb H σ vs pvs ps → pvs[j]? = some (.new o) → vs[j]? = some (.ref p) → p ∈ ps
  | [], _, _, j, _, _, h, e, _ => by simp at e
  | y :: r, _, _, 0, _, _, h, e, e2 => by
    simp at e
    subst e
    cases h with
    | new a b c n t => simp at e2; subst e2; exact List.mem_cons_self
  | y :: r, _, _, j + 1, o, p, h, e, e2 => by
    have e' : r[j]? = some (.new o) := by simpa using e
    cases h with
    | d a t => exact t.mem e' (by simpa using e2)
    | new a b c n t => exact List.mem_cons_of_mem _ (t.mem e' (by simpa using e2))
    | slot a t => exact t.mem e' (by simpa using e2)
theorem VRs.df : ∀ {pvs : List PV} {vs : List V} {ps : List Addr} {j k : Nat} {o o' : Ob} {p : Addr}, VRs Z H0 Hb H σ vs pvs ps → pvs[j]? = some (.new o) → pvs[k]? = some (.new o') → vs[j]? = some (.ref p) → vs[k]? = some (.ref p) → j = k
  | [], _, _, j, _, _, _, _, h, e, _, _, _ => by simp at e
  | y :: r, _, _, 0, 0, _, _, _, _, _, _, _, _ => rfl
  | y :: r, _, _, 0, k + 1, o, o', p, h, e, e2, e3, e4 => by
    simp at e
    subst e
    cases h with
    | new a b c n t =>
      simp at e3
      subst e3
      exact absurd (t.mem (by simpa using e2) (by simpa using e4)) n
  | y :: r, _, _, j + 1, 0, o, o', p, h, e, e2, e3, e4 => by
    simp at e2
    subst e2
    cases h with
    | new a b c n t =>
      simp at e4
      subst e4
      exact absurd (t.mem (by simpa using e) (by simpa using e3)) n
  | y :: r, _, _, j + 1, k + 1, o, o', p, h, e, e2, e3, e4 => by
    cases h with
    | d a t => exact congrArg Nat.succ (t.df (by simpa using e) (by simpa using e2) (by simpa using e3) (by simpa using e4))
    | new a b c n t => exact congrArg Nat.succ (t.df (by simpa using e) (by simpa using e2) (by simpa using e3) (by simpa using e4))
    | slot a t => exact congrArg Nat.succ (t.df (by simpa using e) (by simpa using e2) (by simpa using e3) (by simpa using e4))
theorem VRs.rds (st : Sta Z B Hb H σ env) : ∀ {pvs : List PV} {vs : List V} {ps : List Addr} {rs : List RV}, VRs Z H0 Hb H σ vs pvs ps → Ol.rds env pvs = some rs → RdRs Z Hb H vs rs
  | [], _, _, _, h, e => by
    cases h
    cases e
    exact .nil
  | x :: r, _, _, _, h, e => by
    simp only [Ol.rds, Option.bind_eq_some_iff] at e
    obtain ⟨d, f1, ds, f2, f3⟩ := e
    cases f3
    cases h with
    | d a t => exact .cons (VR.rd (H0 := H0) st (.d a) f1) (t.rds st f2)
    | new a b c n t => exact .cons (VR.rd (H0 := H0) st (.new a b c) f1) (t.rds st f2)
    | slot a t => exact .cons (VR.rd (H0 := H0) st (.slot a) f1) (t.rds st f2)
end
section
variable {Z : Zn} {a b c : ME} {f g : RV → RV → Option PV} {σ : L2.St} {H : Hp} {Q : VK}
theorem re_mB {r : List V → Hp → VK → Prop} {f : List RV → Option PV} {ma : MA} (hr : OpN Z r f) (h : tI Z (mB f ma) σ H Q) : tCB r (tIA Z ma) σ H Q := by
  obtain ⟨B, Hb, env, pv, env', st, e, q⟩ := h
  simp only [mB, Option.bind_eq_some_iff] at e
  obtain ⟨⟨xs, e1⟩, ha, rs, h1, p, h2, h3⟩ := e
  cases h3
  exact ⟨B, Hb, env, xs, _, st, ha, fun vs ps Hb' H' g1 rv => hr Hb' H' vs rs _ g1.st.sub (rv.rds g1.st h1) h2 Q fun w Hb2 H2 n rw => q w Hb2 H2 (g1.nx n) (rw.anyσ.from (g1.ny.back))⟩
theorem Go.kn {B : Bs} {Hb : Hp} {env env1 : Env} {Hb1 H1 : Hp} {vs : List V} {pvs : List PV} {ps : List Addr} {ds : List D} (st : Sta Z B Hb H σ env) (g : Go Z B σ env Hb H env1 Hb1 H1) (rv : VRs Z H Hb1 H1 σ vs pvs ps) (f : fzs pvs = some ds) :
    ∃ Hb2, Go Z B σ env Hb H env1 Hb2 H1 ∧ DpAll Z.K Hb2 vs ds := by
  obtain ⟨Hb2, k, _, q⟩ := rv.know g.st.sub f
  exact ⟨Hb2, g.know st k, q⟩
theorem re_tup {ma : MA} (h : tI Z (mTup ma) σ H Q) : tTupN (tIA Z ma) σ H Q := by
  obtain ⟨B, Hb, env, pv, env', st, e, q⟩ := h
  simp only [mTup, Option.bind_eq_some_iff] at e
  obtain ⟨⟨xs, e1⟩, ha, ds, h1, h2⟩ := e
  split at h2
  · rename_i hl
    cases h2
    refine ⟨B, Hb, env, xs, _, st, ha, fun vs ps Hb' H' g1 rv => ?_⟩
    obtain ⟨Hb2, g2, hd⟩ := g1.kn st rv h1
    have hz : vs.length ≤ 100000 := by rw [DpAll.length hd]; exact hl
    refine ⟨Nat.le_trans hz (by decide), fun p ob hp hob => q _ _ _ (g2.nx (Nx.new g2.st.sub hp)) (.d (.tup sqt_new (DpAll.ex (Ex.new (g2.st.sub.free hp)) hd) fun _ => NoD.of hob))⟩
  · cases h2
theorem re_lst {ma : MA} (h : tI Z (mLst ma) σ H Q) : tLst (tIA Z ma) σ H Q := by
  obtain ⟨B, Hb, env, pv, env', st, e, q⟩ := h
  simp only [mLst, Option.bind_eq_some_iff] at e
  obtain ⟨⟨xs, e1⟩, ha, ds, h1, h2⟩ := e
  split at h2
  · rename_i hl
    cases h2
    refine ⟨B, Hb, env, xs, _, st, ha, fun vs ps Hb' H' g1 rv => ?_⟩
    obtain ⟨Hb2, g2, hd⟩ := g1.kn st rv h1
    have hz : vs.length ≤ 100000 := by rw [DpAll.length hd]; exact hl
    refine ⟨Nat.le_trans hz (by decide), fun p hp => q _ _ _ (g2.nx (Nx.newOwn g2.st.sub hp)) (.new (g2.ny.back p hp) (g2.st.sub.free hp) (.lst upd_same hd))⟩
  · cases h2
/-! tests -/
theorem mBo_is {B : Bs} {H0 Hb : Hp} {pv : PV} {k : Bool} {v : V} (e : mBo pv = some k) (r : VR Z H0 Hb H σ v pv) : v = .bl k := by
  cases r with
  | d a =>
    cases a with
    | bl b => cases e; rfl
    | _ => cases e
  | _ => cases e
theorem re_test {Q : Bool → Hp → Prop} (h : tIT Z (mTest a) σ H Q) : tTest (tI Z a) σ H Q := by
  obtain ⟨B, Hb, env, pv, env', st, e, q⟩ := h
  simp only [mTest, Option.bind_eq_some_iff] at e
  obtain ⟨⟨x, e1⟩, ha, kk, h1, h2⟩ := e
  cases h2
  exact ⟨B, Hb, env, x, _, st, ha, fun v Hb' H' g1 rv => ⟨_, mBo_is (B := B) h1 rv, q Hb' H' g1⟩⟩
theorem isE {H : Hp} {vs : List V} {ds : List D} (h : DpAll Z.K H vs ds) : vs.isEmpty = ds.isEmpty := by
  cases h <;> rfl
theorem re_tru {Q : Bool → Hp → Prop} (h : tIT Z (mTru a) σ H Q) : tI Z a σ H (fun x H' => ∃ k, TruV Z.K x H' k ∧ Q k H') := by
  obtain ⟨B, Hb, env, pv, env', st, e, q⟩ := h
  simp only [mTru, Option.bind_eq_some_iff] at e
  obtain ⟨⟨x, e1⟩, ha, r, h1, k, h3, h2⟩ := e
  cases h2
  refine ⟨B, Hb, env, x, _, st, ha, fun v Hb' H' g1 rv => ⟨_, ?_, q Hb' H' g1⟩⟩
  have w := rv.rd g1.st h1
  cases w with
  | non => cases h3; exact rfl
  | bl b => cases h3; exact rfl
  | int i => cases h3; exact rfl
  | str x =>
    simp only [tru] at h3
    split at h3
    · rename_i hl
      cases h3
      exact ⟨Nat.le_trans hl (by decide), rfl⟩
    · cases h3
  | lst s t =>
    cases h3
    refine .inl ⟨_, s, ?_⟩
    exact congrArg not (isE t).symm
  | tup s t _ =>
    cases h3
    exact .inr (.inl ⟨_, sqt_ex g1.st.sub s, congrArg not (isE t).symm⟩)
  | dic _ => cases h3
  | s _ => cases h3
  | m t =>
    cases h3
    cases t with
    | dic t1 t2 t3 =>
      refine .inr (.inr ⟨_, t1, congrArg not ?_⟩)
      have z := congrArg List.isEmpty t2
      simpa using z.symm
  | t _ => cases h3
theorem re_andT {ta tb : MT} {Q : Bool → Hp → Prop} (h : tIT Z (mAndT ta tb) σ H Q) : tAnd (tIT Z ta) (tIT Z tb) σ H Q := by
  obtain ⟨B, Hb, env, pv, env', st, e, q⟩ := h
  simp only [mAndT, Option.bind_eq_some_iff] at e
  obtain ⟨⟨x, e1⟩, ha, h2⟩ := e
  refine ⟨B, Hb, env, x, e1, st, ha, fun Hb1 H1 g1 => ?_⟩
  cases x with
  | true => exact (if_pos (rfl : true = true)).mpr ⟨B, Hb1, e1, pv, env', g1.st, h2, fun Hb2 H2 g2 => q Hb2 H2 (g1.trans g2)⟩
  | false => cases h2; exact (if_neg Bool.false_ne_true).mpr (q Hb1 H1 g1)
theorem re_orT {ta tb : MT} {Q : Bool → Hp → Prop} (h : tIT Z (mOrT ta tb) σ H Q) : tOr (tIT Z ta) (tIT Z tb) σ H Q := by
  obtain ⟨B, Hb, env, pv, env', st, e, q⟩ := h
  simp only [mOrT, Option.bind_eq_some_iff] at e
  obtain ⟨⟨x, e1⟩, ha, h2⟩ := e
  refine ⟨B, Hb, env, x, e1, st, ha, fun Hb1 H1 g1 => ?_⟩
  cases x with
  | true => cases h2; exact (if_pos (rfl : true = true)).mpr (q Hb1 H1 g1)
  | false => exact (if_neg Bool.false_ne_true).mpr ⟨B, Hb1, e1, pv, env', g1.st, h2, fun Hb2 H2 g2 => q Hb2 H2 (g1.trans g2)⟩
theorem re_notT {ta : MT} {Q : Bool → Hp → Prop} (h : tIT Z (mNotT ta) σ H Q) : tNot (tIT Z ta) σ H Q := by
  obtain ⟨B, Hb, env, pv, env', st, e, q⟩ := h
  simp only [mNotT, Option.bind_eq_some_iff] at e
  obtain ⟨⟨x, e1⟩, ha, h2⟩ := e
  cases h2
  exact ⟨B, Hb, env, x, _, st, ha, fun Hb1 H1 g1 => q Hb1 H1 g1⟩
theorem re_and (h : tI Z (mAnd a b) σ H Q) : tAndV (tI Z a) (tI Z b) σ H Q := by
  obtain ⟨B, Hb, env, pv, env', st, e, q⟩ := h
  simp only [mAnd, Option.bind_eq_some_iff] at e
  obtain ⟨⟨x, e1⟩, ha, kk, h1, h2⟩ := e
  refine ⟨B, Hb, env, x, e1, st, ha, fun v Hb1 H1 g1 rv => ⟨kk, mBo_is (B := B) h1 rv, ?_⟩⟩
  cases kk with
  | true => exact (if_pos (rfl : true = true)).mpr ⟨B, Hb1, e1, pv, env', g1.st, h2, fun w Hb2 H2 g2 rw => q w Hb2 H2 (g1.trans g2) (rw.from g1.ny.back)⟩
  | false => cases h2; exact (if_neg Bool.false_ne_true).mpr (q _ Hb1 H1 g1 (.d (.bl false)))
theorem re_or (h : tI Z (mOr a b) σ H Q) : tOrV (tI Z a) (tI Z b) σ H Q := by
  obtain ⟨B, Hb, env, pv, env', st, e, q⟩ := h
  simp only [mOr, Option.bind_eq_some_iff] at e
  obtain ⟨⟨x, e1⟩, ha, kk, h1, h2⟩ := e
  refine ⟨B, Hb, env, x, e1, st, ha, fun v Hb1 H1 g1 rv => ⟨kk, mBo_is (B := B) h1 rv, ?_⟩⟩
  cases kk with
  | true => cases h2; exact (if_pos (rfl : true = true)).mpr (q _ Hb1 H1 g1 (.d (.bl true)))
  | false => exact (if_neg Bool.false_ne_true).mpr ⟨B, Hb1, e1, pv, env', g1.st, h2, fun w Hb2 H2 g2 rw => q w Hb2 H2 (g1.trans g2) (rw.from g1.ny.back)⟩
theorem re_not (h : tI Z (mNot a) σ H Q) : tNotV (tI Z a) σ H Q := by
  obtain ⟨B, Hb, env, pv, env', st, e, q⟩ := h
  simp only [mNot, Option.bind_eq_some_iff] at e
  obtain ⟨⟨x, e1⟩, ha, kk, h1, h2⟩ := e
  cases h2
  exact ⟨B, Hb, env, x, _, st, ha, fun v Hb1 H1 g1 rv => ⟨kk, mBo_is (B := B) h1 rv, q _ Hb1 H1 g1 (.d (.bl _))⟩⟩
theorem re_if {t : MT} (h : tI Z (mIf t a b) σ H Q) : tIf (tIT Z t) (tI Z a) (tI Z b) σ H Q := by
  obtain ⟨B, Hb, env, pv, env', st, e, q⟩ := h
  simp only [mIf, Option.bind_eq_some_iff] at e
  obtain ⟨⟨x, e1⟩, ha, h2⟩ := e
  refine ⟨B, Hb, env, x, e1, st, ha, fun Hb1 H1 g1 => ?_⟩
  cases x with
  | true => exact (if_pos (rfl : true = true)).mpr ⟨B, Hb1, e1, pv, env', g1.st, h2, fun w Hb2 H2 g2 rw => q w Hb2 H2 (g1.trans g2) (rw.from g1.ny.back)⟩
  | false => exact (if_neg Bool.false_ne_true).mpr ⟨B, Hb1, e1, pv, env', g1.st, h2, fun w Hb2 H2 g2 rw => q w Hb2 H2 (g1.trans g2) (rw.from g1.ny.back)⟩
theorem re_chain {r r' : R2} (hr : Op2 Z r f) (hr' : Op2 Z r' g) (h : tI Z (mChain f g a b c) σ H Q) : tChain r r' (tI Z a) (tI Z b) (tI Z c) σ H Q := by
  obtain ⟨B, Hb, env, pv, env', st, e, q⟩ := h
  simp only [mChain, Option.bind_eq_some_iff] at e
  obtain ⟨⟨x, e1⟩, ha, ⟨y, e2⟩, hb, r1, h1, r2, h2, p, h3, k, h4, h5⟩ := e
  refine ⟨B, Hb, env, x, e1, st, ha, fun v1 Hb1 H1 g1 rv1 => ⟨B, Hb1, e1, y, e2, g1.st, hb, fun v2 Hb2 H2 g2 rv2 => ?_⟩⟩
  have rv1' := rv1.keep (fun p hp => own_some st p (g1.ow p hp)) g2.ny
  refine hr Hb2 H2 v1 v2 r1 r2 _ g2.st.sub (rv1'.rd g2.st h1) (rv2.rd g2.st h2) h3 _ fun w Hb3 H3 n rw => ⟨k, mBo_is (B := B) h4 rw, ?_⟩
  have g3 := (g1.trans g2).nx n
  cases k with
  | true =>
    simp only [if_true, Option.bind_eq_some_iff] at h5
    obtain ⟨⟨z, e3⟩, hc, t', h6, u, h7, p', h8, h9⟩ := h5
    cases h9
    refine (if_pos (rfl : true = true)).mpr ⟨B, Hb3, e2, z, _, g3.st, hc, fun v3 Hb4 H4 g4 rv3 => ?_⟩
    have rv2' := ((rv2.from (H0 := H) g1.ny.back).keep (fun p hp => own_some st p ((g1.trans g2).ow p hp)) n.to).keep (fun p hp => own_some st p ((g1.trans g2).ow p hp)) g4.ny
    exact hr' Hb4 H4 v2 v3 t' u _ g4.st.sub (rv2'.rd g4.st h6) (rv3.rd g4.st h7) h8 Q fun w' Hb5 H5 n5 rw' => q w' Hb5 H5 ((g3.trans g4).nx n5) (rw'.anyσ.from (g3.trans g4).ny.back)
  | false =>
    cases h5
    exact (if_neg Bool.false_ne_true).mpr (q _ Hb3 H3 g3 (.d (.bl false)))
end
end Ol
set_option Elab.async false
set_option linter.all false
set_option maxRecDepth 100000
set_option maxHeartbeats 4000000
/-! own: the call of a function -/
namespace Ol
open PySem PySem.Spec PyProof.Rows L2
mutual
/-- no list within -/
def nl : D → Bool
  | .list _ => false
  | .tuple ds => nls ds
  | .dict _ => false
  | _ => true
def nls : List D → Bool
  | [] => true
  | d :: ds => nl d && nls ds
end
def nlO : Ob → Bool
  | .lst xs => nls xs
  | .set _ => true
  | .dic kvs => nls (kvs.map (·.2))
  | .dit kvs => nls (kvs.map (·.2))
mutual
def nlP : PV → Bool
  | .d x => nl x
  | .new o => nlO o
  | .slot _ => true
  | .tup xs => nlPs xs
def nlPs : List PV → Bool
  | [] => true
  | x :: r => nlP x && nlPs r
end
def nlM : List (Option Ob) → Bool
  | [] => true
  | none :: r => nlM r
  | some o :: r => nlO o && nlM r
/-- new lists that are handed to a function that only reads them -/
def fzIO : List Bool → List PV → List PV
  | false :: bs, .new (.lst xs) :: r => .d (.list xs) :: fzIO bs r
  | _ :: bs, x :: r => x :: fzIO bs r
  | _, r => r
/-- a parameter's slot, and whether it is lent for reading -/
def par (e : Env) : Bool → PV → Option (SV × Bool)
  | _, .d x => some (.d x, false)
  | _, .new o => some (.own true o, false)
  | io, .slot i => match sget e i with
    | some (.own _ (.lst xs)) => if io = true then some (.own true (.lst xs), false) else some (.d (.list xs), true)
    | some (.own _ o) => some (.own true o, false)
    | _ => none
  | _, .tup _ => none
def pars (e : Env) : List Bool → List PV → Option (List (SV × Bool))
  | [], [] => some []
  | b :: bs, x :: r => (par e b x).bind fun s => (pars e bs r).bind fun ss => some (s :: ss)
  | _, _ => none
def isSlot (i : Nat) : PV → Bool
  | .slot j => i == j
  | _ => false
def okSlots : List PV → Bool
  | [] => true
  | .slot i :: r => !(r.any (isSlot i)) && okSlots r
  | _ :: r => okSlots r
def putOuts : Env → List PV → List (Option Ob) → Option Env
  | e, .slot i :: r, some o :: os => match sget e i with
    | some (.own b _) => putOuts (sset e i (some (.own b o))) r os
    | _ => none
  | e, _ :: r, _ :: os => putOuts e r os
  | e, _, _ => some e
def mCall (ios : List Bool) (F : Fn) (a : MA) : ME := fun env => (a env).bind fun xs => if okSlots (fzIO ios xs.1) = true then (pars xs.2 ios (fzIO ios xs.1)).bind fun ss => (F (ss.map (·.1))).bind fun r =>
  if (!(ss.any (·.2)) || (nlP r.1 && nlM r.2)) = true then (putOuts xs.2 (fzIO ios xs.1) r.2).bind fun e2 => some (r.1, e2) else none else none
/-! ### what is lent is let go -/
def lets (H : Hp) (T : Addr → Prop) [DecidablePred T] : Hp := fun a => if T a then none else H a
section
variable {Z : Zn} {B : Bs} {Hb H Hb1 H1 Hb2 Hb' H' H0 : Hp} {σ : L2.St} {env env1 env' : Env} {p : Addr} {o : Ob} {v : V} {pv : PV} {T : Addr → Prop} [DecidablePred T]
theorem lets_ne {a : Addr} (h : ¬ T a) : lets H T a = H a := if_neg h
theorem lets_at {a : Addr} (h : T a) : lets H T a = none := if_pos h
theorem lets_ex : Ex (lets H T) H := fun a o e => by
  by_cases h : T a
  · rw [lets_at h] at e; cases e
  · rw [lets_ne h] at e; exact e
theorem lets_none {a : Addr} (h : H a = none) : lets H T a = none := by
  by_cases z : T a
  · exact lets_at z
  · rw [lets_ne z]; exact h
theorem sqt_lets {K : Fg} {a : Addr} {xs : List V} (hT : ∀ a, T a → ∃ ys, Hb a = some (.lst ys)) (h : SqT K Hb a xs) : SqT K (lets Hb T) a xs := by
  have z : ∀ {u : HO}, Hb a = some u → (∀ ys, u ≠ .lst ys) → lets Hb T a = some u := fun {u} e n => by
    rw [lets_ne]
    · exact e
    · intro t
      obtain ⟨ys, q⟩ := hT a t
      rw [e] at q
      exact n ys (Option.some.inj q)
  rcases h with (h | ⟨o, h⟩) | h
  · exact .inl (.inl (z h fun ys q => nomatch q))
  · exact .inl (.inr ⟨o, z h fun ys q => nomatch q⟩)
  · exact .inr h
theorem nod_lets {a : Addr} (hT : ∀ a, T a → ∃ ys, Hb a = some (.lst ys)) (h : NoD Hb a) : NoD (lets Hb T) a := by
  obtain ⟨ob, xs, h1, h2⟩ := h
  refine ⟨ob, xs, ?_, h2⟩
  rw [lets_ne]
  · exact h1
  · intro t
    obtain ⟨ys, q⟩ := hT a t
    rw [h1] at q
    cases q
mutual
theorem Dp.lets {K : Fg} (hT : ∀ a, T a → ∃ ys, Hb a = some (.lst ys)) : ∀ {d : D} {v : V}, nl d = true → Dp K Hb v d → Dp K (lets Hb T) v d
  | .none, _, _, h => by cases h; exact .non
  | .bool b, _, _, h => by cases h; exact .bl b
  | .int i, _, _, h => by cases h; exact .int i
  | .str x, _, _, h => by cases h; exact .str x
  | .list ds, _, n, _ => by simp [nl] at n
  | .tuple ds, _, n, h => by cases h with | tup hs ha hn => exact .tup (sqt_lets hT hs) (DpAll.lets hT (by simpa [nl] using n) ha) fun z => nod_lets hT (hn z)
  | .dict _, _, n, _ => by simp [nl] at n
theorem DpAll.lets {K : Fg} (hT : ∀ a, T a → ∃ ys, Hb a = some (.lst ys)) : ∀ {ds : List D} {vs : List V}, nls ds = true → DpAll K Hb vs ds → DpAll K (lets Hb T) vs ds
  | [], _, _, h => by cases h; exact .nil
  | d :: ds, _, n, h => by
    simp only [nls, Bool.and_eq_true] at n
    cases h with | cons a b => exact .cons (Dp.lets hT n.1 a) (DpAll.lets hT n.2 b)
end
theorem nls_strs' : ∀ l : List Str, nls (l.map PyData.str) = true
  | [] => rfl
  | x :: l => by simp [nls, nl, nls_strs' l]
theorem DtR.lets {K : Fg} (hT : ∀ a, T a → ∃ ys, Hb a = Option.some (HO.lst ys)) {ks : KE3} {kvs : List (List Str × D)} (r : DtR K Hb ks kvs) (n : nls (kvs.map (·.2)) = true) : DtR K (lets Hb T) ks kvs := by
  induction r with
  | nil => exact .nil
  | cons a b _ ih =>
    simp only [List.map_cons, nls, Bool.and_eq_true] at n
    exact .cons (Dp.lets hT (by simpa [nl] using nls_strs' _) a) (Dp.lets hT n.1 b) (ih n.2)
theorem OwnR.lets (hT : ∀ a, T a → ∃ ys, Hb a = Option.some (HO.lst ys)) (n : nlO o = true) (h : OwnR Z Hb H p o) : OwnR Z (lets Hb T) H p o := by
  cases h with
  | lst a b => exact .lst a (DpAll.lets hT n b)
  | set a => exact .set a
  | dic a b c => exact .dic a b (DpAll.lets hT n c)
  | dit a r => exact .dit a (r.lets hT n)
theorem VRs.lets (hT : ∀ a, T a → ∃ ys, Hb a = some (.lst ys)) : ∀ {pvs : List PV} {vs : List V} {ps : List Addr}, nlPs pvs = true → VRs Z H0 Hb H σ vs pvs ps → VRs Z H0 (lets Hb T) H σ vs pvs ps
  | [], _, _, _, h => by cases h; exact .nil
  | x :: r, _, _, n, h => by
    simp only [nlPs, Bool.and_eq_true] at n
    cases h with
    | d a t => exact .d (Dp.lets hT (by simpa [nlP] using n.1) a) (t.lets hT n.2)
    | new a b c e t => exact .new a (lets_none b) (c.lets hT (by simpa [nlP] using n.1)) e (t.lets hT n.2)
    | slot a t => exact .slot a (t.lets hT n.2)
theorem VR.lets (hT : ∀ a, T a → ∃ ys, Hb a = some (.lst ys)) (n : nlP pv = true) (h : VR Z H0 Hb H σ v pv) : VR Z H0 (lets Hb T) H σ v pv := by
  cases h with
  | d a => exact .d (Dp.lets hT (by simpa [nlP] using n) a)
  | new a b c => exact .new a (lets_none b) (c.lets hT (by simpa [nlP] using n))
  | slot a => exact .slot a
  | tup a t => exact .tup (sqt_lets hT a) (t.lets hT (by simpa [nlP] using n))
/-! ### the arguments -/
theorem VRs.unk : ∀ {pvs : List PV} {vs : List V} {ps : List Addr}, VRs Z H0 Hb H σ vs pvs ps → ∀ a ∈ ps, Hb a = none
  | [], _, _, h => by cases h; simp
  | _ :: _, _, _, h => by
    cases h with
    | d a t => exact t.unk
    | new a b c e t => intro p hp; rcases List.mem_cons.mp hp with z | z; exact z ▸ b; exact t.unk p z
    | slot a t => exact t.unk
theorem VRs.grow (e : Ex Hb Hb2) : ∀ {pvs : List PV} {vs : List V} {ps : List Addr}, VRs Z H0 Hb H σ vs pvs ps → (∀ a ∈ ps, Hb2 a = none) → VRs Z H0 Hb2 H σ vs pvs ps
  | [], _, _, h, _ => by cases h; exact .nil
  | _ :: _, _, _, h, n => by
    cases h with
    | d a t => exact .d (Dp.ex e a) (t.grow e n)
    | new a b c d t => exact .new a (n _ List.mem_cons_self) (c.at e fun _ z => z) d (t.grow e fun x hx => n x (List.mem_cons_of_mem _ hx))
    | slot a t => exact .slot a (t.grow e n)
theorem VRs.fzIO (e : Ex Hb H) : ∀ {pvs : List PV} {ios : List Bool} {vs : List V} {ps : List Addr}, VRs Z H0 Hb H σ vs pvs ps → ∃ Hb' ps', Kn H0 Hb H Hb' ∧ (∀ a, a ∉ ps → Hb' a = Hb a) ∧ VRs Z H0 Hb' H σ vs (fzIO ios pvs) ps' ∧ ∀ a ∈ ps', a ∈ ps
  | [], ios, _, _, h => by
    cases h
    have z : Ol.fzIO ios [] = [] := by
      cases ios with
      | nil => rfl
      | cons b bs => cases b <;> rfl
    rw [z]
    exact ⟨Hb, [], ⟨.rfl, e, fun _ _ z => z⟩, fun _ _ => rfl, .nil, fun _ h => h⟩
  | x :: r, [], vs, ps, h => by
    have z : Ol.fzIO [] (x :: r) = x :: r := rfl
    rw [z]
    exact ⟨Hb, ps, ⟨.rfl, e, fun _ _ z => z⟩, fun _ _ => rfl, h, fun _ h => h⟩
  | x :: r, b :: ios, _, _, h => by
    cases h with
    | d a t =>
      obtain ⟨Hb', ps', k, z, q, s⟩ := t.fzIO e (ios := ios)
      have y : ∀ x, Ol.fzIO (b :: ios) (PV.d x :: r) = PV.d x :: Ol.fzIO ios r := fun x => by cases b <;> rfl
      rw [y]
      exact ⟨Hb', ps', k, z, .d (Dp.ex k.kb a) q, s⟩
    | slot a t =>
      obtain ⟨Hb', ps', k, z, q, s⟩ := t.fzIO e (ios := ios)
      have y : ∀ x, Ol.fzIO (b :: ios) (PV.slot x :: r) = PV.slot x :: Ol.fzIO ios r := fun x => by cases b <;> rfl
      rw [y]
      exact ⟨Hb', ps', k, z, .slot a q, s⟩
    | new a c d n t =>
      rename_i p o vs ps
      obtain ⟨Hb', ps', k, z, q, s⟩ := t.fzIO e (ios := ios)
      have hp : Hb' p = none := (z p n).trans c
      have keep : ∃ Hb' ps', Kn H0 Hb H Hb' ∧ (∀ a, a ∉ p :: ps → Hb' a = Hb a) ∧ VRs Z H0 Hb' H σ (V.ref p :: vs) (PV.new o :: Ol.fzIO ios r) ps' ∧ ∀ a ∈ ps', a ∈ p :: ps :=
        ⟨Hb', p :: ps', k, fun a ha => z a fun w => ha (List.mem_cons_of_mem _ w), .new a hp (d.at k.kb fun _ z => z) (fun w => n (s p w)) q, fun x hx => by
          rcases List.mem_cons.mp hx with w | w
          · rw [w]; exact List.mem_cons_self
          · exact List.mem_cons_of_mem _ (s x w)⟩
      cases b with
      | true => exact keep
      | false =>
        cases d with
        | lst d1 d2 =>
          refine ⟨upd Hb' p _, ps', ⟨k.kb.trans (Ex.new hp), upd_ex k.sub d1, fun y h1 h2 => ?_⟩, fun y hy => ?_, .d (.lst (.inl (.of upd_same)) (DpAll.ex (k.kb.trans (Ex.new hp)) d2)) (q.grow (Ex.new hp) fun y hy => ?_), fun x hx => List.mem_cons_of_mem _ (s x hx)⟩
          · rw [upd_ne (fun w => h1 (by rw [w]; exact a))]
            exact k.fr y h1 h2
          · rw [upd_ne (fun w => hy (by simp [w]))]
            exact z y (fun w => hy (List.mem_cons_of_mem _ w))
          · rw [upd_ne (fun w => n (by rw [← w]; exact s y hy))]
            exact q.unk y hy
        | set _ => exact keep
        | dic _ _ _ => exact keep
        | dit _ _ => exact keep
theorem pars_get : ∀ {ios : List Bool} {pvs : List PV} {ss : List (SV × Bool)} {j : Nat} {s : SV × Bool}, pars env ios pvs = some ss → ss[j]? = some s → ∃ b x, pvs[j]? = some x ∧ par env b x = some s
  | [], [], _, _, _, e, h => by cases e; simp at h
  | b :: bs, x :: r, _, 0, _, e, h => by
    simp only [pars, Option.bind_eq_some_iff] at e
    obtain ⟨d, f1, ds, f2, f3⟩ := e
    cases f3
    simp at h
    subst h
    exact ⟨b, x, rfl, f1⟩
  | b :: bs, x :: r, _, j + 1, _, e, h => by
    simp only [pars, Option.bind_eq_some_iff] at e
    obtain ⟨d, f1, ds, f2, f3⟩ := e
    cases f3
    obtain ⟨b', x', h1, h2⟩ := pars_get f2 (by simpa using h)
    exact ⟨b', x', by simpa using h1, h2⟩
  | [], _ :: _, _, _, _, e, _ => by cases e
  | _ :: _, [], _, _, _, e, _ => by cases e
theorem pars_len : ∀ {ios : List Bool} {pvs : List PV} {ss : List (SV × Bool)}, pars env ios pvs = some ss → ss.length = pvs.length
  | [], [], _, e => by cases e; rfl
  | b :: bs, x :: r, _, e => by
    simp only [pars, Option.bind_eq_some_iff] at e
    obtain ⟨d, f1, ds, f2, f3⟩ := e
    cases f3
    exact congrArg Nat.succ (pars_len f2)
  | [], _ :: _, _, e => by cases e
  | _ :: _, [], _, e => by cases e
theorem isSlot_any {i j : Nat} : ∀ {r : List PV}, r[j]? = some (.slot i) → r.any (isSlot i) = true := fun {r} h => by
  rw [List.any_eq_true]
  exact ⟨_, List.mem_of_getElem? h, by simp [isSlot]⟩
theorem okSlots_tail {x : PV} {r : List PV} (h : okSlots (x :: r) = true) : okSlots r = true := by
  cases x <;> simp only [okSlots, Bool.and_eq_true] at h <;> first | exact h | exact h.2
theorem okSlots_eq : ∀ {pvs : List PV} {j k i : Nat}, okSlots pvs = true → pvs[j]? = some (.slot i) → pvs[k]? = some (.slot i) → j = k
  | [], j, _, _, _, h, _ => by simp at h
  | x :: r, 0, 0, _, _, _, _ => rfl
  | x :: r, 0, k + 1, i, h, h1, h2 => by
    simp at h1
    subst h1
    simp only [okSlots, Bool.and_eq_true, Bool.not_eq_true'] at h
    rw [isSlot_any (by simpa using h2)] at h
    exact absurd h.1 (by simp)
  | x :: r, j + 1, 0, i, h, h1, h2 => by
    simp at h2
    subst h2
    simp only [okSlots, Bool.and_eq_true, Bool.not_eq_true'] at h
    rw [isSlot_any (by simpa using h1)] at h
    exact absurd h.1 (by simp)
  | x :: r, j + 1, k + 1, i, h, h1, h2 => congrArg Nat.succ (okSlots_eq (okSlots_tail h) (by simpa using h1) (by simpa using h2))
theorem nlM_get : ∀ {l : List (Option Ob)} {j : Nat} {o : Ob}, nlM l = true → l[j]? = some (some o) → nlO o = true
  | [], j, _, _, h => by simp at h
  | none :: r, 0, _, n, h => by simp at h
  | some o :: r, 0, _, n, h => by simp at h; subst h; simp only [nlM, Bool.and_eq_true] at n; exact n.1
  | none :: r, j + 1, _, n, h => nlM_get (l := r) (by simpa [nlM] using n) (by simpa using h)
  | some o :: r, j + 1, _, n, h => by simp only [nlM, Bool.and_eq_true] at n; exact nlM_get (l := r) n.2 (by simpa using h)
theorem putOuts_len : ∀ {pvs : List PV} {outs : List (Option Ob)} {e e2 : Env}, putOuts e pvs outs = some e2 → e2.length = e.length
  | [], outs, e, e2, h => by cases outs <;> (cases h; rfl)
  | x :: r, [], e, e2, h => by cases x <;> (cases h; rfl)
  | x :: r, w :: os, e, e2, h => by
    have skip : putOuts e r os = some e2 → e2.length = e.length := fun h => putOuts_len (pvs := r) h
    cases x with
    | d y => exact skip (by cases w <;> exact h)
    | new y => exact skip (by cases w <;> exact h)
    | tup y => exact skip (by cases w <;> exact h)
    | slot k =>
      cases w with
      | none => exact skip h
      | some o' =>
        simp only [putOuts] at h
        cases q : sget e k with
        | none => simp [q] at h
        | some s =>
          rw [q] at h
          cases s with
          | d y => simp at h
          | own b o =>
            have z := putOuts_len (pvs := r) (show putOuts (sset e k (some (.own b o'))) r os = some e2 from h)
            rw [z, sset_length]
/-- what a call has left in the slots -/
theorem putOuts_get : ∀ {pvs : List PV} {outs : List (Option Ob)} {e e2 : Env} {i : Nat} {sv : SV}, putOuts e pvs outs = some e2 → okSlots pvs = true → sget e2 i = some sv →
    (∃ (j : Nat) (b : Bool) (o o' : Ob), pvs[j]? = some (PV.slot i) ∧ outs[j]? = some (some o') ∧ sget e i = some (SV.own b o) ∧ sv = SV.own b o') ∨ (sget e i = some sv ∧ ∀ (j : Nat) (o' : Ob), pvs[j]? = some (PV.slot i) → outs[j]? = some (some o') → False)
  | [], outs, e, e2, i, sv, h, _, hg => by
    have z : e = e2 := by cases outs <;> (cases h; rfl)
    subst z
    exact .inr ⟨hg, fun j o' q => by simp at q⟩
  | x :: r, [], e, e2, i, sv, h, _, hg => by
    have z : e = e2 := by cases x <;> (cases h; rfl)
    subst z
    exact .inr ⟨hg, fun j o' _ q => by simp at q⟩
  | x :: r, w :: os, e, e2, i, sv, h, ok, hg => by
    have lift : ∀ {e : Env}, (∀ o' : Ob, x = PV.slot i → w = some o' → False) → ((∃ (j : Nat) (b : Bool) (o o' : Ob), r[j]? = some (PV.slot i) ∧ os[j]? = some (some o') ∧ sget e i = some (SV.own b o) ∧ sv = SV.own b o') ∨ (sget e i = some sv ∧ ∀ (j : Nat) (o' : Ob), r[j]? = some (PV.slot i) → os[j]? = some (some o') → False)) →
      (∃ (j : Nat) (b : Bool) (o o' : Ob), (x :: r)[j]? = some (PV.slot i) ∧ (w :: os)[j]? = some (some o') ∧ sget e i = some (SV.own b o) ∧ sv = SV.own b o') ∨ (sget e i = some sv ∧ ∀ (j : Nat) (o' : Ob), (x :: r)[j]? = some (PV.slot i) → (w :: os)[j]? = some (some o') → False) := by
      intro e n q
      rcases q with ⟨j, b, o, o', h1, h2, h3, h4⟩ | ⟨h1, h2⟩
      · exact .inl ⟨j + 1, b, o, o', by simpa using h1, by simpa using h2, h3, h4⟩
      · refine .inr ⟨h1, fun j o' q1 q2 => ?_⟩
        cases j with
        | zero => exact n o' (by simpa using q1) (by simpa using q2)
        | succ j => exact h2 j o' (by simpa using q1) (by simpa using q2)
    have skip : putOuts e r os = some e2 → (∀ o' : Ob, x = PV.slot i → w = some o' → False) → _ := fun h n => lift n (putOuts_get (pvs := r) h (okSlots_tail ok) hg)
    cases x with
    | d y => exact skip (by cases w <;> exact h) (fun o' q => nomatch q)
    | new y => exact skip (by cases w <;> exact h) (fun o' q => nomatch q)
    | tup y => exact skip (by cases w <;> exact h) (fun o' q => nomatch q)
    | slot k =>
      cases w with
      | none => exact skip h (fun o' _ q => nomatch q)
      | some o' =>
        simp only [putOuts] at h
        cases q : sget e k with
        | none => simp [q] at h
        | some s =>
          rw [q] at h
          cases s with
          | d y => simp at h
          | own b o =>
            have h' : putOuts (sset e k (some (SV.own b o'))) r os = some e2 := h
            by_cases hk : k = i
            · subst hk
              have one : ∀ (j : Nat) (o' : Ob), r[j]? = some (PV.slot k) → os[j]? = some (some o') → False := fun j o' q1 _ => by
                have z := okSlots_eq ok (j := 0) (k := j + 1) (i := k) rfl (by simpa using q1)
                omega
              rcases putOuts_get (pvs := r) h' (okSlots_tail ok) hg with ⟨j, b', o1, o2, h1, h2, _, _⟩ | ⟨h1, _⟩
              · exact (one j o2 h1 h2).elim
              · exact .inl ⟨0, b, o, o', rfl, rfl, q, (Option.some.inj (sget_set_some h1)).symm⟩
            · have z : sget (sset e k (some (SV.own b o'))) i = sget e i := sget_set_ne hk
              have w := putOuts_get (pvs := r) h' (okSlots_tail ok) hg
              rw [z] at w
              exact lift (fun o' q _ => hk (PV.slot.inj q)) w
end
end Ol
set_option Elab.async false
set_option linter.all false
set_option maxRecDepth 100000
set_option maxHeartbeats 4000000
/-! own: a function's promise, and its call -/
namespace Ol
open PySem PySem.Spec PyProof.Rows L2
structure OutR (Z : Zn) (Hb' H' : Hp) (vs : List V) (svs : List SV) (outs : List (Option Ob)) : Prop where
  own : ∀ (j : Nat) (b : Bool) (o : Ob), svs[j]? = some (.own b o) → ∃ (p : Addr) (o' : Ob), vs[j]? = some (.ref p) ∧ outs[j]? = some (some o') ∧ Hb' p = none ∧ OwnR Z Hb' H' p o'
  dat : ∀ (j : Nat) (x : D) (o' : Ob), svs[j]? = some (.d x) → outs[j]? = some (some o') → False
def Pw (svs : List SV) (vs : List V) (j : Nat) (p : Addr) : Prop := ∃ b o, sget (svs.map some) j = some (.own b o) ∧ (vs.map some)[j]? = some (some (.ref p))
def spI (Z : Zn) (F : Fn) : Sp := fun vs H Q _ => ∃ Hb svs r outs, vs.length = svs.length ∧ Sta Z ⟨Hb, H, Pw svs vs⟩ Hb H (vs.map some) (svs.map some) ∧ F svs = some (r, outs) ∧
  ∀ v Hb' H', Ny (Ow (svs.map some) (vs.map some)) Hb H Hb' H' → OutR Z Hb' H' vs svs outs → VR Z H Hb' H' [] v r → Q v H'
theorem sget_map : ∀ {l : List SV} {i : Nat}, sget (l.map some) i = l[i]?
  | [], i => by simp [sget]
  | x :: r, 0 => rfl
  | x :: r, i + 1 => by
    have z := sget_map (l := r) (i := i)
    simpa [sget] using z
section
variable {Z : Zn} {σ : L2.St} {H : Hp} {Q : VK}
open Classical in
theorem call_at {B : Bs} {Hb Hb1 H1 : Hp} {env e1 e2 : Env} {xs : List PV} {vs : List V} {ps : List Addr} {ios : List Bool} {ss : List (SV × Bool)} {F : Fn} {r : PV} {outs : List (Option Ob)} {E : XK}
    (st : Sta Z B Hb H σ env) (g1 : Go Z B σ env Hb H e1 Hb1 H1) (rv1 : VRs Z H Hb1 H1 σ vs xs ps) (ok : okSlots (fzIO ios xs) = true) (hs : pars e1 ios (fzIO ios xs) = some ss) (hF : F (ss.map (·.1)) = some (r, outs))
    (hn : ss.any (·.2) = true → nlP r = true ∧ nlM outs = true) (hp : putOuts e1 (fzIO ios xs) outs = some e2) (q : ∀ v Hb' H', Go Z B σ env Hb H e2 Hb' H' → VR Z H Hb' H' σ v r → Q v H') : spI Z F vs H1 Q E := by
  obtain ⟨Hb2, ps2, k2, z2, rv2, s2⟩ := rv1.fzIO g1.st.sub (ios := ios)
  have g2 : Go Z B σ env Hb H e1 Hb2 H1 := g1.know st k2
  generalize hx : fzIO ios xs = pvs at ok hs hp rv2
  have owE : ∀ p, Ow e1 σ p → H p ≠ none ∧ Hb2 p = none := fun p h => ⟨own_some st p (g2.ow p h), (h.some g2.st).2⟩
  -- the parameters, one by one
  have par1 : ∀ (j : Nat) (s : SV × Bool), ss[j]? = some s → ∃ v x, vs[j]? = some v ∧ pvs[j]? = some x ∧ ((∃ y, s = (.d y, false) ∧ Dp Z.K Hb2 v y) ∨ (∃ i b l, x = .slot i ∧ s = (.d (.list l), true) ∧ sget e1 i = some (.own b (.lst l)) ∧ σ[i]? = some (some v)) ∨
      (∃ p o, x = .new o ∧ s = (.own true o, false) ∧ v = .ref p ∧ H p = none ∧ Hb2 p = none ∧ OwnR Z Hb2 H1 p o) ∨ ∃ i b o, x = .slot i ∧ s = (.own true o, false) ∧ sget e1 i = some (.own b o) ∧ σ[i]? = some (some v)) := by
    intro j s hj
    obtain ⟨b, x, h1, h2⟩ := pars_get hs hj
    obtain ⟨v, h3, h4⟩ := rv2.get h1
    refine ⟨v, x, h3, h1, ?_⟩
    cases h4 with
    | d a => cases b <;> (cases h2; exact .inl ⟨_, rfl, a⟩)
    | new a c d => cases b <;> (cases h2; exact .inr (.inr (.inl ⟨_, _, rfl, rfl, rfl, a, c, d⟩)))
    | tup a t => cases b <;> cases h2
    | slot a =>
      rename_i i
      simp only [par] at h2
      cases w : sget e1 i with
      | none => rw [w] at h2; cases h2
      | some sv =>
        rw [w] at h2
        cases sv with
        | d y => cases h2
        | own bb o =>
          cases o with
          | lst l =>
            cases b with
            | true => cases h2; exact .inr (.inr (.inr ⟨i, bb, _, rfl, rfl, w, a⟩))
            | false => cases h2; exact .inr (.inl ⟨i, bb, l, rfl, rfl, w, a⟩)
          | set l => cases h2; exact .inr (.inr (.inr ⟨i, bb, _, rfl, rfl, w, a⟩))
          | dic l => cases h2; exact .inr (.inr (.inr ⟨i, bb, _, rfl, rfl, w, a⟩))
          | dit l => cases h2; exact .inr (.inr (.inr ⟨i, bb, _, rfl, rfl, w, a⟩))
  -- what is lent
  let T : Addr → Prop := fun a => ∃ (j i : Nat) (b : Bool) (l : List D), pvs[j]? = some (.slot i) ∧ ss[j]? = some (.d (.list l), true) ∧ sget e1 i = some (.own b (.lst l)) ∧ σ[i]? = some (some (.ref a))
  have tOw : ∀ a, T a → Ow e1 σ a := fun a ⟨j, i, b, l, h1, h2, h3, h4⟩ => ⟨i, b, _, h3, h4⟩
  have tAt : ∀ a, T a → ∃ ys, H1 a = some (.lst ys) := fun a ⟨j, i, b, l, h1, h2, h3, h4⟩ => by
    obtain ⟨p, q1, q2, q3, _⟩ := g2.st.sl i _ h3
    rw [h4] at q1
    cases q1
    cases q3 with
    | lst w1 w2 => exact ⟨_, w1⟩
  let HbS : Hp := fun a => if T a then H1 a else Hb2 a
  have hS1 : ∀ a, T a → HbS a = H1 a := fun a h => if_pos h
  have hS2 : ∀ a, ¬ T a → HbS a = Hb2 a := fun a h => if_neg h
  have ex1 : Ex Hb2 HbS := fun a o e => by
    rw [hS2]
    · exact e
    · intro t
      rw [(owE a (tOw a t)).2] at e
      cases e
  have ex2 : Ex HbS H1 := fun a o e => by
    by_cases t : T a
    · rw [hS1 a t] at e; exact e
    · rw [hS2 a t] at e; exact g2.st.sub a o e
  have len : vs.length = (ss.map (·.1)).length := by rw [List.length_map, pars_len hs, ← rv2.len]
  have sv_at : ∀ (j : Nat) (sv : SV), (ss.map (·.1))[j]? = some sv → ∃ t, ss[j]? = some (sv, t) := fun j sv h => by
    rw [List.getElem?_map] at h
    cases w : ss[j]? with
    | none => rw [w] at h; cases h
    | some s =>
      rw [w] at h
      have z : s.1 = sv := Option.some.inj h
      exact ⟨s.2, by rw [← z]⟩
  have vs_at : ∀ (j : Nat) (v : V), vs[j]? = some v ↔ (vs.map some)[j]? = some (some v) := fun j v => by
    rw [List.getElem?_map]
    cases vs[j]? <;> simp
  -- an own parameter's cell
  have cell : ∀ (j : Nat) (b : Bool) (o : Ob) (p : Addr), (ss.map (·.1))[j]? = some (.own b o) → vs[j]? = some (.ref p) → (pvs[j]? = some (.new o) ∧ H p = none ∧ Hb2 p = none ∧ OwnR Z Hb2 H1 p o) ∨ ∃ i b', pvs[j]? = some (.slot i) ∧ sget e1 i = some (.own b' o) ∧ σ[i]? = some (some (.ref p)) := by
    intro j b o p h1 h2
    obtain ⟨t, h3⟩ := sv_at j _ h1
    obtain ⟨v, x, h4, h5, h6⟩ := par1 j _ h3
    rw [h2] at h4
    cases h4
    rcases h6 with ⟨y, z, _⟩ | ⟨i, b, l, _, z, _⟩ | ⟨p', o', e1', z, e2', a1, a2, a3⟩ | ⟨i, b', o', e1', z, a1, a2⟩
    · cases z
    · cases z
    · cases z; cases e2'; subst e1'; exact .inl ⟨h5, a1, a2, a3⟩
    · cases z; subst e1'; exact .inr ⟨i, b', h5, a1, a2⟩
  have sta : Sta Z ⟨HbS, H1, Pw (ss.map (·.1)) vs⟩ HbS H1 (vs.map some) ((ss.map (·.1)).map some) := by
    refine ⟨.refl ex2, fun j sv e => ?_, fun j k p b o b' o' h1 h2 h3 h4 => ?_, by simpa using len⟩
    · rw [sget_map] at e
      obtain ⟨t, h3⟩ := sv_at j _ e
      obtain ⟨v, x, h4, h5, h6⟩ := par1 j _ h3
      rcases h6 with ⟨y, z, a⟩ | ⟨i, b, l, z1, z, a1, a2⟩ | ⟨p', o', e1', z, e2', a1, a2, a3⟩ | ⟨i, b', o', e1', z, a1, a2⟩
      · cases z; exact ⟨v, (vs_at j v).mp h4, Dp.ex ex1 a⟩
      · cases z
        obtain ⟨p, q1, q2, q3, _⟩ := g2.st.sl i _ a1
        rw [a2] at q1
        cases q1
        cases q3 with
        | lst w1 w2 =>
          subst z1
          exact ⟨_, (vs_at j _).mp h4, .lst (.inl (.of ((hS1 p ⟨j, i, b, l, h5, h3, a1, a2⟩).trans w1))) (DpAll.ex ex1 w2)⟩
      · cases z
        subst e2' e1'
        have nt : ¬ T p' := fun t => (owE p' (tOw p' t)).1 a1
        exact ⟨p', (vs_at j _).mp h4, (hS2 p' nt).trans a2, a3.at ex1 fun _ z => z, fun _ => ⟨_, _, by rw [sget_map]; exact e, (vs_at j _).mp h4⟩, fun z => by cases z⟩
      · cases z
        subst e1'
        obtain ⟨p, q1, q2, q3, _⟩ := g2.st.sl i _ a1
        rw [a2] at q1
        cases q1
        have nt : ¬ T p := fun ⟨j', i', b'', l, t1, t2, t3, t4⟩ => by
          have z := g2.st.df i i' p _ _ _ _ a1 t3 a2 t4
          subst z
          have z := okSlots_eq ok h5 t1
          subst z
          rw [h3] at t2
          cases t2
        exact ⟨p, (vs_at j _).mp h4, (hS2 p nt).trans q2, q3.at ex1 fun _ z => z, fun _ => ⟨_, _, by rw [sget_map]; exact e, (vs_at j _).mp h4⟩, fun z => by cases z⟩
    · rw [sget_map] at h1 h2
      have c1 := cell j b o p h1 ((vs_at j _).mpr h3)
      have c2 := cell k b' o' p h2 ((vs_at k _).mpr h4)
      rcases c1 with ⟨n1, n2, _⟩ | ⟨i, bb, n1, n2, n3⟩
      · rcases c2 with ⟨m1, _⟩ | ⟨i', bb', m1, m2, m3⟩
        · exact rv2.df n1 m1 ((vs_at j _).mpr h3) ((vs_at k _).mpr h4)
        · exact absurd n2 (owE p ⟨i', bb', _, m2, m3⟩).1
      · rcases c2 with ⟨m1, m2, _⟩ | ⟨i', bb', m1, m2, m3⟩
        · exact absurd m2 (owE p ⟨i, bb, _, n2, n3⟩).1
        · have z := g2.st.df i i' p _ _ _ _ n2 m2 n3 m3
          subst z
          exact okSlots_eq ok n1 m1
  refine ⟨HbS, ss.map (·.1), r, outs, len, sta, hF, fun v Hb' H' n out rv => ?_⟩
  -- back
  have hT : ∀ a, T a → ∃ ys, Hb' a = some (.lst ys) := fun a t => by
    obtain ⟨ys, e⟩ := tAt a t
    exact ⟨ys, n.kb a _ ((hS1 a t).trans e)⟩
  have nolend : ss.any (·.2) = false → ∀ a, ¬ T a := fun h a ⟨j, i, b, l, h1, h2, _⟩ => by
    have z : ss.any (·.2) = true := List.any_eq_true.mpr ⟨_, List.mem_of_getElem? h2, rfl⟩
    rw [h] at z
    cases z
  have noown : ∀ a, Ow ((ss.map (·.1)).map some) (vs.map some) a → H a = none ∨ ∃ (j i : Nat) (b b' : Bool) (o : Ob), pvs[j]? = some (.slot i) ∧ (ss.map (·.1))[j]? = some (.own b' o) ∧ sget e1 i = some (.own b o) ∧ σ[i]? = some (some (.ref a)) := fun a ⟨j, b, o, h1, h2⟩ => by
    rw [sget_map] at h1
    rcases cell j b o a h1 ((vs_at j _).mpr h2) with ⟨_, n2, _⟩ | ⟨i, bb, n1, n2, n3⟩
    · exact .inl n2
    · exact .inr ⟨j, i, bb, b, o, n1, h1, n2, n3⟩
  have kb2 : Ex Hb2 (lets Hb' T) := fun a o e => by
    have nt : ¬ T a := fun t => by rw [(owE a (tOw a t)).2] at e; cases e
    rw [lets_ne nt]
    exact n.kb a o (ex1 a o e)
  have frN : ∀ a, H1 a ≠ none → Hb2 a = none → lets Hb' T a = none := fun a h1 h2 => by
    by_cases t : T a
    · exact lets_at t
    · rw [lets_ne t]
      exact n.fr a h1 ((hS2 a t).trans h2)
  have ny : Ny (Ow env σ) Hb H (lets Hb' T) H' := by
    refine ⟨g2.ny.kb.trans kb2, (lets_ex).trans n.sub, fun a o s e => ?_, fun a e => n.al a (g2.ny.al a e), fun a h1 h2 => frN a (g2.ny.al a h1) (g2.ny.fr a h1 h2)⟩
    refine n.kh a o (fun w => ?_) (g2.ny.kh a o s e)
    rcases noown a w with z | ⟨j, i, b, b', o', _, _, w2, w3⟩
    · rw [z] at e; cases e
    · exact s (g2.ow a ⟨i, b, o', w2, w3⟩)
  have own2 : ∀ (i : Nat) (b : Bool) (o : Ob), sget e2 i = some (.own b o) → ∃ o', sget e1 i = some (.own b o') := fun i b o h => by
    rcases putOuts_get hp ok h with ⟨j, b', o1, o2, _, _, h3, h4⟩ | ⟨h1, _⟩
    · cases h4; exact ⟨_, h3⟩
    · exact ⟨_, h1⟩
  have dropO : ∀ (j : Nat) (o : Ob) (p : Addr), outs[j]? = some (some o) → OwnR Z Hb' H' p o → OwnR Z (lets Hb' T) H' p o := fun j o p h w => by
    cases l : ss.any (·.2) with
    | false =>
      have z : lets Hb' T = Hb' := funext fun a => lets_ne (nolend l a)
      rw [z]
      exact w
    | true => exact w.lets hT (nlM_get (hn l).2 h)
  have go : Go Z B σ env Hb H e2 (lets Hb' T) H' := by
    refine ⟨ny, ⟨st.ny.base ny st.own0, fun i sv e => ?_, fun i j p b o b' o' h1 h2 h3 h4 => ?_, g2.st.len.trans (putOuts_len hp).symm⟩, fun p ⟨i, b, o, h1, h2⟩ => ?_⟩
    · rcases putOuts_get hp ok e with ⟨j, b, o, o', h1, h2, h3, rfl⟩ | ⟨h1, h2⟩
      · obtain ⟨v', w1, w2⟩ := rv2.get h1
        cases w2 with
        | slot w2 =>
          obtain ⟨p, q1, q2, q3, q4⟩ := g2.st.sl i _ h3
          rw [w2] at q1
          cases q1
          -- the parameter was its own
          have hj : ∃ s, ss[j]? = some s := by
            have hl := pars_len hs
            have : j < ss.length := by rw [hl]; exact (List.getElem?_eq_some_iff.mp h1).1
            exact ⟨_, List.getElem?_eq_getElem this⟩
          obtain ⟨s, hj⟩ := hj
          have hsv : (ss.map (·.1))[j]? = some s.1 := by rw [List.getElem?_map, hj]; rfl
          cases c : s.1 with
          | d y => rw [c] at hsv; exact (out.dat j y o' hsv h2).elim
          | own bb oo =>
            rw [c] at hsv
            obtain ⟨p', o2, m1, m2, m3, m4⟩ := out.own j _ _ hsv
            rw [w1] at m1
            cases m1
            rw [h2] at m2
            cases m2
            exact ⟨p, w2, lets_none m3, dropO j _ p h2 m4, q4⟩
      · have w := g2.st.sl i sv h1
        cases sv with
        | d y => obtain ⟨v', w1, w2⟩ := w; exact ⟨v', w1, Dp.ex kb2 w2⟩
        | own b o =>
          obtain ⟨p, w1, w2, w3, w4⟩ := w
          refine ⟨p, w1, frN p w3.some w2, w3.at kb2 fun u z => n.kh p u (fun s => ?_) z, w4⟩
          rcases noown p s with z | ⟨j, i', b1, b2, o', y1, y2, y3, y4⟩
          · exact own_some st p (g2.ow p ⟨i, b, o, h1, w1⟩) z
          · have z := g2.st.df i i' p _ _ _ _ h1 y3 w1 y4
            subst z
            obtain ⟨_, o2, _, m2, _⟩ := out.own j _ _ y2
            exact h2 j o2 y1 m2
    · obtain ⟨o1, h1⟩ := own2 i b o h1
      obtain ⟨o2, h2⟩ := own2 j b' o' h2
      exact g2.st.df i j p _ _ _ _ h1 h2 h3 h4
    · obtain ⟨o1, h1⟩ := own2 i b o h1
      exact g2.ow p ⟨i, b, o1, h1, h2⟩
  have rv' : VR Z H1 (lets Hb' T) H' [] v r := by
    cases l : ss.any (·.2) with
    | false =>
      have z : lets Hb' T = Hb' := funext fun a => lets_ne (nolend l a)
      rw [z]
      exact rv
    | true => exact rv.lets hT (hn l).1
  exact q v _ H' go (rv'.anyσ.from g1.ny.back)
theorem re_call {F : Fn} {ios : List Bool} {ma : MA} {E : XK} (h : tI Z (mCall ios F ma) σ H Q) : tCall (spI Z F) [] E (tIA Z ma) σ H Q := by
  obtain ⟨B, Hb, env, pv, env', st, e, q⟩ := h
  simp only [mCall, Option.bind_eq_some_iff] at e
  obtain ⟨⟨xs, e1⟩, ha, e⟩ := e
  split at e
  · rename_i ok
    simp only [Option.bind_eq_some_iff] at e
    obtain ⟨ss, hs, ⟨r, outs⟩, hF, e⟩ := e
    split at e
    · rename_i cond
      simp only [Option.bind_eq_some_iff] at e
      obtain ⟨e2, hp, e⟩ := e
      cases e
      refine ⟨B, Hb, env, xs, e1, st, ha, fun vs ps Hb1 H1 g1 rv1 => ?_⟩
      show spI Z F (vs ++ []) H1 Q E
      rw [List.append_nil]
      refine call_at st g1 rv1 ok hs hF (fun l => ?_) hp q
      rw [l] at cond
      simpa using cond
    · cases e
  · cases e
end
end Ol
set_option Elab.async false
set_option linter.all false
set_option maxRecDepth 100000
set_option maxHeartbeats 4000000
/-! own: stores and statements -/
namespace Ol
open PySem PySem.Spec PyProof.Rows L2
@[simp] def svOf : PV → Option SV
  | .d x => some (.d x)
  | .new o => some (.own false o)
  | _ => none
@[simp] def store (i : Nat) (pv : PV) (env : Env) : Option Env := match sget env i with
  | some (.own true _) => none
  | _ => (svOf pv).bind fun sv => some (sset env i (some sv))
@[simp] def stores : List Nat → List PV → Env → Option Env
  | [], [], e => some e
  | i :: is, x :: xs, e => (store i x e).bind (stores is xs)
  | _, _, _ => none
@[simp] def comps : PV → Option (List PV)
  | .d (.tuple ds) => some (ds.map .d)
  | .tup xs => some xs
  | _ => none
@[simp] def mNames (is : List Nat) (pv : PV) (env : Env) : Option Env := (comps pv).bind fun xs => stores is xs env
abbrev MG := PV → Env → Option Env
@[simp] def mAsg (g : MG) (a : ME) : MS := fun env => (a env).bind fun x => (g x.1 x.2).bind fun e => some (.nx e)
@[simp] def mSkip : MS := fun env => some (.nx env)
def mBreak : MS := fun env => some (.bk env)
def mCont : MS := fun env => some (.ct env)
def mBad : MS := fun _ => none
@[simp] def mSeq (s t : MS) : MS := fun env => (s env).bind fun r => match r with
  | .nx e => t e
  | r => some r
@[simp] def mIfS (c : MT) (s t : MS) : MS := fun env => (c env).bind fun x => if x.1 = true then s x.2 else t x.2
@[simp] def mDrop (a : ME) : MS := fun env => (a env).bind fun x => some (.nx x.2)
/-- what is handed back: a slot's own object goes with it -/
@[simp] def back (env : Env) : PV → Option PV
  | .d x => some (.d x)
  | .new o => some (.new o)
  | .slot i => match sget env i with
    | some (.own false o) => some (.new o)
    | _ => none
  | .tup _ => none
@[simp] def backs (env : Env) : List PV → Option (List PV)
  | [] => some []
  | x :: r => (back env x).bind fun y => (backs env r).bind fun ys => some (y :: ys)
@[simp] def mRet (a : ME) : MS := fun env => (a env).bind fun x => (back x.2 x.1).bind fun y => some (.ret y x.2)
@[simp] def mRetN : MS := fun env => some (.ret (.d .none) env)
/-- return (a, ..) with one's own objects within -/
@[simp] def mRetT (a : MA) : MS := fun env => (a env).bind fun xs => if okSlots xs.1 = true ∧ xs.1.length ≤ 1000 then (backs xs.2 xs.1).bind fun ys => some (.ret (.tup ys) xs.2) else none
@[simp] def mAug (i : Nat) (f : RV → RV → Option PV) (a : ME) : MS := fun env => match sget env i with
  | some (.d x) => (a env).bind fun y => (rd y.2 y.1).bind fun t => (f (.d x) t).bind fun p => (store i p y.2).bind fun e => some (.nx e)
  | _ => none
def EndR (Z : Zn) (B : Bs) (Hb : Hp) (D : Ends) : Rs → Prop
  | .nx e => ∀ σ Hb' H, Sta Z B Hb' H σ e → Ex Hb Hb' → D.nx σ H
  | .bk e => ∀ σ Hb' H, Sta Z B Hb' H σ e → Ex Hb Hb' → D.bk σ H
  | .ct e => ∀ σ Hb' H, Sta Z B Hb' H σ e → Ex Hb Hb' → D.ct σ H
  | .ret pv e => ∀ v σ Hb' H, Sta Z B Hb' H σ e → Ex Hb Hb' → VR Z B.H0 Hb' H [] v pv → D.rt v H
def tS (Z : Zn) (m : MS) : TS := fun D σ H => ∃ B Hb env r, Sta Z B Hb H σ env ∧ m env = some r ∧ EndR Z B Hb D r
def tG (Z : Zn) (is : List Nat) (m : MG) : TG := fun v σ H Q => ∃ B Hb H0 env pv env', Sta Z B Hb H σ env ∧ (∀ p, Ow env σ p → H0 p ≠ none) ∧ (∀ p, H0 p = none → B.H0 p = none) ∧ VR Z H0 Hb H σ v pv ∧ m pv env = some env' ∧
  ∀ σ', Sta Z B Hb H σ' env' → (∀ vs, (∀ i ∈ is, i ∈ vs) → wipe σ' vs = wipe σ vs) → (∀ p, Ow env' σ' p → Ow env σ p ∨ H0 p = none) → Q σ' H
theorem sget_lt {sv : SV} : ∀ {e : Env} {i : Nat}, sget e i = some sv → i < e.length
  | [], _, h => by cases h
  | _ :: _, 0, _ => Nat.zero_lt_succ _
  | _ :: r, i + 1, h => Nat.succ_lt_succ (sget_lt (e := r) h)
theorem wipe_set {σ : L2.St} {i : Nat} {x : Option V} : ∀ {vs : List Nat}, i ∈ vs → wipe (σ.set i x) vs = wipe σ vs
  | [], h => by simp at h
  | v :: vs, h => by
    unfold wipe
    by_cases hi : i ∈ vs
    · rw [wipe_set hi]
    · have e : i = v := by rcases List.mem_cons.mp h with z | z; exact z; exact absurd z hi
      subst e
      have z : ∀ {σ : L2.St} {x : Option V}, (wipe (σ.set i x) vs).set i none = (wipe σ vs).set i none := by
        intro σ x
        apply List.ext_getElem?
        intro j
        by_cases hj : i = j
        · subst hj
          simp [List.getElem?_set, wipe_length]
        · rw [List.getElem?_set_ne hj, List.getElem?_set_ne hj]
          by_cases hm : j ∈ vs
          · have w : ∀ (σ : L2.St) (us : List Nat), j ∈ us → (wipe σ us)[j]? = if j < σ.length then some none else none := by
              intro σ us
              induction us with
              | nil => intro z; simp at z
              | cons u us ih =>
                intro z
                unfold wipe
                by_cases hu : u = j
                · subst hu; simp [List.getElem?_set, wipe_length]
                · rw [List.getElem?_set_ne hu]
                  exact ih (by rcases List.mem_cons.mp z with q | q; exact absurd q.symm hu; exact q)
            rw [w _ vs hm, w _ vs hm, List.length_set]
          · rw [wipe_out hm, wipe_out hm, List.getElem?_set_ne hj]
      exact z
section
variable {Z : Zn} {B : Bs} {Hb H Hb1 H1 Hb2 Hb' H' H0 : Hp} {σ : L2.St} {env env1 env' : Env} {p : Addr} {o : Ob} {v : V} {pv : PV} {i : Nat}
theorem Sta.store (st : Sta Z B Hb H σ env) (hv : ∀ x, pv = .d x → Dp Z.K Hb v x) (ho : ∀ o, pv = .new o → ∃ p, v = .ref p ∧ ¬ Ow env σ p ∧ Hb p = none ∧ B.H0 p = none ∧ OwnR Z Hb H p o) (e : Ol.store i pv env = some env') :
    Sta Z B Hb H (σ.set i (some v)) env' ∧ ∀ q, Ow env' (σ.set i (some v)) q → Ow env σ q ∨ (v = .ref q ∧ ∃ o, pv = .new o) := by
  have e' : ∃ sv, svOf pv = some sv ∧ env' = sset env i (some sv) := by
    unfold Ol.store at e
    split at e
    · cases e
    · simp only [Option.bind_eq_some_iff] at e
      obtain ⟨sv, h1, h2⟩ := e
      cases h2
      exact ⟨sv, h1, rfl⟩
  obtain ⟨sv, hs, rfl⟩ := e'
  have hi : ∀ {x}, sget (sset env i (some sv)) i = some x → i < σ.length ∧ x = sv := fun {x} h => by
    have h1 := sget_lt h
    rw [sset_length, ← st.len] at h1
    exact ⟨h1, (Option.some.inj (sget_set_some h)).symm⟩
  have hown : ∀ (j : Nat) (b : Bool) (o : Ob) (q : Addr), sget (sset env i (some sv)) j = some (.own b o) → (σ.set i (some v))[j]? = some (some (.ref q)) → (j = i ∧ v = .ref q ∧ b = false ∧ pv = .new o) ∨ (j ≠ i ∧ sget env j = some (.own b o) ∧ σ[j]? = some (some (.ref q))) := by
    intro j b o q h1 h2
    by_cases hj : i = j
    · subst hj
      obtain ⟨hl, hx⟩ := hi h1
      rw [List.getElem?_set_self hl] at h2
      subst hx
      cases pv with
      | d x => cases hs
      | new o' => cases hs; exact .inl ⟨rfl, Option.some.inj (Option.some.inj h2), rfl, rfl⟩
      | slot k => cases hs
      | tup xs => cases hs
    · rw [sget_set_ne hj] at h1
      rw [List.getElem?_set_ne hj] at h2
      exact .inr ⟨fun z => hj z.symm, h1, h2⟩
  refine ⟨⟨st.ny, fun j sv' h => ?_, fun j k q b o b' o' h1 h2 h3 h4 => ?_, by rw [List.length_set, sset_length]; exact st.len⟩, fun q ⟨j, b, o, h1, h2⟩ => ?_⟩
  · by_cases hj : i = j
    · subst hj
      obtain ⟨hl, hx⟩ := hi h
      subst hx
      cases pv with
      | d x => cases hs; exact ⟨v, List.getElem?_set_self hl, hv x rfl⟩
      | new o =>
        cases hs
        obtain ⟨p, rfl, h1, h2, h3, h4⟩ := ho o rfl
        exact ⟨p, List.getElem?_set_self hl, h2, h4, (fun z => by cases z), fun _ => h3⟩
      | slot k => cases hs
      | tup xs => cases hs
    · rw [sget_set_ne hj] at h
      have w := st.sl j sv' h
      cases sv' with
      | d x => obtain ⟨u, h1, h2⟩ := w; exact ⟨u, by rw [List.getElem?_set_ne hj]; exact h1, h2⟩
      | own b o => obtain ⟨p, h1, h2⟩ := w; exact ⟨p, by rw [List.getElem?_set_ne hj]; exact h1, h2⟩
  · rcases hown j b o q h1 h3 with ⟨z1, z2, _, z4⟩ | ⟨z1, z2, z3⟩
    · rcases hown k b' o' q h2 h4 with ⟨y1, _⟩ | ⟨y1, y2, y3⟩
      · rw [z1, y1]
      · obtain ⟨p, w1, w2, _⟩ := ho o z4
        rw [z2] at w1
        cases w1
        exact absurd ⟨k, _, _, y2, y3⟩ w2
    · rcases hown k b' o' q h2 h4 with ⟨y1, y2, _, y4⟩ | ⟨y1, y2, y3⟩
      · obtain ⟨p, w1, w2, _⟩ := ho o' y4
        rw [y2] at w1
        cases w1
        exact absurd ⟨j, _, _, z2, z3⟩ w2
      · exact st.df j k q _ _ _ _ z2 y2 z3 y3
  · rcases hown j b o q h1 h2 with ⟨_, z2, _, z4⟩ | ⟨_, z2, z3⟩
    · exact .inr ⟨z2, o, z4⟩
    · exact .inl ⟨j, b, o, z2, z3⟩
def gNames : List Nat → TGs
  | [] => gNil
  | i :: r => gCons (gName i) (gNames r)
theorem Sta.stores : ∀ {is : List Nat} {pvs : List PV} {vs : List V} {ps : List Addr} {σ : L2.St} {σv : L2.St} {env env' : Env}, Sta Z B Hb H σ env → VRs Z H0 Hb H σv vs pvs ps → (∀ p ∈ ps, ¬ Ow env σ p) → (∀ p ∈ ps, B.H0 p = none) → Ol.stores is pvs env = some env' →
    ∀ Q : L2.St → Hp → Prop, (∀ σ', Sta Z B Hb H σ' env' → (∀ us, (∀ i ∈ is, i ∈ us) → wipe σ' us = wipe σ us) → (∀ p, Ow env' σ' p → Ow env σ p ∨ p ∈ ps) → Q σ' H) → vs.length = is.length ∧ (gNames is) vs σ H Q
  | [], [], _, _, σ, _, _, _, st, h, _, _, e, Q, q => by
    cases h
    cases e
    exact ⟨rfl, rfl, q σ st (fun _ _ => rfl) fun _ z => .inl z⟩
  | i :: is, x :: xs, _, _, σ, σv, env, _, st, h, hp, hb, e, Q, q => by
    simp only [Ol.stores, Option.bind_eq_some_iff] at e
    obtain ⟨e1, h1, h2⟩ := e
    have lift : ∀ {v : V} {σ' : L2.St}, (∀ us, (∀ i ∈ is, i ∈ us) → wipe σ' us = wipe (σ.set i (some v)) us) → ∀ us, (∀ j ∈ i :: is, j ∈ us) → wipe σ' us = wipe σ us := fun {v σ'} w us hu => by
      rw [w us fun j hj => hu j (List.mem_cons_of_mem _ hj)]
      exact wipe_set (hu i List.mem_cons_self)
    cases h with
    | d a t =>
      rename_i v y vs
      obtain ⟨st1, ow1⟩ := st.store (v := v) (fun y hy => by cases hy; exact a) (fun o ho => by cases ho) h1
      obtain ⟨l, g⟩ := Sta.stores st1 t (fun p hp' w => by
        rcases ow1 p w with z | ⟨_, o, z⟩
        · exact hp p hp' z
        · cases z) hb h2 Q fun σ' s w y => q σ' s (lift w) fun p hp' => by
          rcases y p hp' with z | z
          · rcases ow1 p z with z | ⟨_, o, z⟩
            · exact .inl z
            · cases z
          · exact .inr z
      exact ⟨congrArg Nat.succ l, v, vs, rfl, g⟩
    | new a b c n t =>
      rename_i p o vs ps
      obtain ⟨st1, ow1⟩ := st.store (v := .ref p) (fun y hy => by cases hy) (fun o' ho => by cases ho; exact ⟨p, rfl, hp p List.mem_cons_self, b, hb p List.mem_cons_self, c⟩) h1
      obtain ⟨l, g⟩ := Sta.stores st1 t (fun p' hp' w => by
        rcases ow1 p' w with z | ⟨z, _⟩
        · exact hp p' (List.mem_cons_of_mem _ hp') z
        · cases z; exact n hp') (fun p' hp' => hb p' (List.mem_cons_of_mem _ hp')) h2 Q fun σ' s w y => q σ' s (lift w) fun p' hp' => by
        rcases y p' hp' with z | z
        · rcases ow1 p' z with z | ⟨z, _⟩
          · exact .inl z
          · cases z; exact .inr List.mem_cons_self
        · exact .inr (List.mem_cons_of_mem _ z)
      exact ⟨congrArg Nat.succ l, .ref p, vs, rfl, g⟩
    | slot a t =>
      unfold Ol.store at h1
      split at h1
      · cases h1
      · cases h1
  | [], _ :: _, _, _, _, _, _, _, _, _, _, _, e, _, _ => by cases e
  | _ :: _, [], _, _, _, _, _, _, _, _, _, _, e, _, _ => by cases e
theorem VRs.ofD : ∀ {ds : List D} {vs : List V}, DpAll Z.K Hb vs ds → VRs Z H0 Hb H σ vs (ds.map .d) []
  | [], _, h => by cases h; exact .nil
  | y :: ys, _, h => by cases h with | cons a b => exact .d a (VRs.ofD b)
theorem rg_name {Q : L2.St → Hp → Prop} (h : tG Z [i] (Ol.store i) v σ H Q) : gName i v σ H Q := by
  obtain ⟨B, Hb, H0, env, pv, env', st, h0, hb, rv, e, q⟩ := h
  obtain ⟨st1, ow1⟩ := st.store (v := v) (fun y hy => by subst hy; cases rv with | d a => exact a) (fun o ho => by
    subst ho
    cases rv with
    | new a b c => exact ⟨_, rfl, fun w => h0 _ w a, b, hb _ a, c⟩) e
  exact q _ st1 (fun vs hu => wipe_set (hu i (by simp))) fun p hp => by
    rcases ow1 p hp with z | ⟨z, o, rfl⟩
    · exact .inl z
    · cases rv with
      | new a b c => cases z; exact .inr a
theorem rg_names {is : List Nat} {Q : L2.St → Hp → Prop} (h : tG Z is (mNames is) v σ H Q) : gTup Z.K is.length (gNames is) v σ H Q := by
  obtain ⟨B, Hb, H0, env, pv, env', st, h0, hb, rv, e, q⟩ := h
  simp only [mNames, Option.bind_eq_some_iff] at e
  obtain ⟨xs, h1, h2⟩ := e
  cases rv with
  | d a =>
    cases a with
    | tup s t _ =>
      cases h1
      obtain ⟨l, g⟩ := Sta.stores st (VRs.ofD (H0 := H0) (H := H) (σ := σ) t) (by simp) (by simp) h2 Q fun σ' s w y => q σ' s w fun p hp => (y p hp).imp id fun z => by simp at z
      exact ⟨_, _, rfl, sqt_ex st.sub s, l, g⟩
    | _ => cases h1
  | new a b c => cases h1
  | slot a => cases h1
  | tup s t =>
    cases h1
    obtain ⟨l, g⟩ := Sta.stores st t (fun p hp w => h0 p w (t.fresh p hp)) (fun p hp => hb p (t.fresh p hp)) h2 Q fun σ' s w y => q σ' s w fun p hp => (y p hp).imp id fun z => t.fresh p z
    exact ⟨_, _, rfl, sqt_ex st.sub s, l, g⟩
/-! statements -/
variable {a : ME} {D : Ends}
theorem Sta.h0 (st : Sta Z B Hb H σ env) : ∀ p, H p = none → B.H0 p = none := st.ny.back
theorem rs_asg {is : List Nat} {g : MG} (h : tS Z (mAsg g a) D σ H) : tAsg (tI Z a) (tG Z is g) D σ H := by
  obtain ⟨B, Hb, env, r, st, e, q⟩ := h
  simp only [mAsg, Option.bind_eq_some_iff] at e
  obtain ⟨⟨x, e1⟩, ha, e2, h1, h2⟩ := e
  cases h2
  exact ⟨B, Hb, env, x, e1, st, ha, fun v Hb' H' g1 rv => ⟨B, Hb', H, e1, x, e2, g1.st, fun p hp => own_some st p (g1.ow p hp), st.h0, rv, h1, fun σ' s _ _ => q σ' Hb' H' s g1.ny.kb⟩⟩
theorem rs_skip (h : tS Z mSkip D σ H) : tNext D σ H := by
  obtain ⟨B, Hb, env, r, st, e, q⟩ := h
  cases e
  exact q σ Hb H st .rfl
theorem rs_break (h : tS Z mBreak D σ H) : tBreak D σ H := by
  obtain ⟨B, Hb, env, r, st, e, q⟩ := h
  cases e
  exact q σ Hb H st .rfl
theorem rs_cont (h : tS Z mCont D σ H) : tCont D σ H := by
  obtain ⟨B, Hb, env, r, st, e, q⟩ := h
  cases e
  exact q σ Hb H st .rfl
theorem rs_bad (h : tS Z mBad D σ H) : tNever D σ H := by
  obtain ⟨B, Hb, env, r, st, e, q⟩ := h
  cases e
theorem EndR.more {r : Rs} (e : Ex Hb Hb1) (q : EndR Z B Hb D r) : EndR Z B Hb1 D r := by
  cases r with
  | nx x => exact fun σ Hb' H s w => q σ Hb' H s (e.trans w)
  | bk x => exact fun σ Hb' H s w => q σ Hb' H s (e.trans w)
  | ct x => exact fun σ Hb' H s w => q σ Hb' H s (e.trans w)
  | ret v x => exact fun v σ Hb' H s w => q v σ Hb' H s (e.trans w)
theorem rs_seq {s t : MS} (h : tS Z (mSeq s t) D σ H) : tSeq (tS Z s) (tS Z t) D σ H := by
  obtain ⟨B, Hb, env, r, st, e, q⟩ := h
  simp only [mSeq, Option.bind_eq_some_iff] at e
  obtain ⟨r1, h1, h2⟩ := e
  refine ⟨B, Hb, env, r1, st, h1, ?_⟩
  cases r1 with
  | nx e1 => exact fun σ' Hb' H' s' w => ⟨B, Hb', e1, r, s', h2, q.more w⟩
  | bk e1 => cases h2; exact q
  | ct e1 => cases h2; exact q
  | ret v e1 => cases h2; exact q
theorem rs_if {c : MT} {s t : MS} (h : tS Z (mIfS c s t) D σ H) : tIfS (tIT Z c) (tS Z s) (tS Z t) D σ H := by
  obtain ⟨B, Hb, env, r, st, e, q⟩ := h
  simp only [mIfS, Option.bind_eq_some_iff] at e
  obtain ⟨⟨x, e1⟩, ha, h2⟩ := e
  refine ⟨B, Hb, env, x, e1, st, ha, fun Hb1 H1 g1 => ?_⟩
  cases x with
  | true => exact (if_pos (rfl : true = true)).mpr ⟨B, Hb1, e1, r, g1.st, h2, q.more g1.ny.kb⟩
  | false => exact (if_neg Bool.false_ne_true).mpr ⟨B, Hb1, e1, r, g1.st, h2, q.more g1.ny.kb⟩
theorem rs_drop (h : tS Z (mDrop a) D σ H) : tDrop (tI Z a) D σ H := by
  obtain ⟨B, Hb, env, r, st, e, q⟩ := h
  simp only [mDrop, Option.bind_eq_some_iff] at e
  obtain ⟨⟨x, e1⟩, ha, h2⟩ := e
  cases h2
  exact ⟨B, Hb, env, x, e1, st, ha, fun v Hb' H' g1 rv => q σ Hb' H' g1.st g1.ny.kb⟩
theorem VRs.noσ : ∀ {pvs ys : List PV} {vs : List V} {ps : List Addr}, Sta Z B Hb H σ env → (∀ p, Ow env σ p → H0 p ≠ none) → (∀ p, H0 p = none → B.H0 p = none) → okSlots pvs = true → VRs Z H0 Hb H σ vs pvs ps → backs env pvs = some ys →
    ∃ ps', VRs Z B.H0 Hb H [] vs ys ps' ∧ ∀ p ∈ ps', p ∈ ps ∨ ∃ (j : Nat), PV.slot j ∈ pvs ∧ (∃ b o, sget env j = some (.own b o)) ∧ σ[j]? = some (some (.ref p))
  | [], _, _, _, st, h0, hb, ok, h, e => by
    cases h
    cases e
    exact ⟨[], .nil, by simp⟩
  | x :: r, _, _, _, st, h0, hb, ok, h, e => by
    simp only [backs, Option.bind_eq_some_iff] at e
    obtain ⟨y, e1, ys, e2, e3⟩ := e
    cases e3
    have ok' := okSlots_tail ok
    cases h with
    | d a t =>
      obtain ⟨ps', q, w⟩ := t.noσ st h0 hb ok' e2
      cases e1
      exact ⟨ps', .d a q, fun p hp => (w p hp).imp id fun ⟨j, h1, h2⟩ => ⟨j, List.mem_cons_of_mem _ h1, h2⟩⟩
    | new a b c n t =>
      rename_i p o vs ps
      obtain ⟨ps', q, w⟩ := t.noσ st h0 hb ok' e2
      cases e1
      refine ⟨p :: ps', .new (hb p a) b c (fun hp => ?_) q, fun p' hp' => ?_⟩
      · rcases w p hp with z | ⟨j, _, ⟨bb, oo, z⟩, z2⟩
        · exact n z
        · exact h0 p ⟨j, bb, oo, z, z2⟩ a
      · rcases List.mem_cons.mp hp' with z | z
        · exact .inl (z ▸ List.mem_cons_self)
        · exact (w p' z).imp (fun z => List.mem_cons_of_mem _ z) fun ⟨j, h1, h2⟩ => ⟨j, List.mem_cons_of_mem _ h1, h2⟩
    | slot a t =>
      rename_i v i vs
      obtain ⟨ps', q, w⟩ := t.noσ st h0 hb ok' e2
      simp only [back] at e1
      cases z : sget env i with
      | none => rw [z] at e1; cases e1
      | some sv =>
        rw [z] at e1
        cases sv with
        | d y => cases e1
        | own b o =>
          cases b with
          | true => cases e1
          | false =>
            cases e1
            obtain ⟨p, q1, q2, q3, _, q5⟩ := st.sl i _ z
            rw [a] at q1
            cases q1
            refine ⟨p :: ps', .new (q5 rfl) q2 q3 (fun hp => ?_) q, fun p' hp' => ?_⟩
            · rcases w p hp with z' | ⟨j, hj, ⟨bb, oo, z1⟩, z2⟩
              · exact h0 p ⟨i, _, _, z, a⟩ (t.fresh p z')
              · have y := st.df i j p _ _ _ _ z z1 a z2
                subst y
                obtain ⟨k, hk⟩ := List.getElem?_of_mem hj
                have y := okSlots_eq ok (j := 0) (k := k + 1) (i := i) rfl (by simpa using hk)
                omega
            · rcases List.mem_cons.mp hp' with z' | z'
              · subst z'; exact .inr ⟨i, List.mem_cons_self, ⟨_, _, z⟩, a⟩
              · exact (w p' z').imp id fun ⟨j, h1, h2⟩ => ⟨j, List.mem_cons_of_mem _ h1, h2⟩
theorem rs_ret (h : tS Z (mRet a) D σ H) : tRet (tI Z a) D σ H := by
  obtain ⟨B, Hb, env, r, st, e, q⟩ := h
  simp only [mRet, Option.bind_eq_some_iff] at e
  obtain ⟨⟨x, e1⟩, ha, y, h1, h2⟩ := e
  cases h2
  refine ⟨B, Hb, env, x, e1, st, ha, fun v Hb' H' g1 rv => q v σ Hb' H' g1.st g1.ny.kb ?_⟩
  cases rv with
  | d z => cases h1; exact .d z
  | new z1 z2 z3 => cases h1; exact .new (st.h0 _ z1) z2 z3
  | slot z =>
    rename_i i
    simp only [back] at h1
    cases w : sget e1 i with
    | none => rw [w] at h1; cases h1
    | some sv =>
      rw [w] at h1
      cases sv with
      | d y => cases h1
      | own b o =>
        cases b with
        | true => cases h1
        | false =>
          cases h1
          obtain ⟨p, q1, q2, q3, _, q5⟩ := g1.st.sl i _ w
          rw [z] at q1
          cases q1
          exact .new (q5 rfl) q2 q3
  | tup z t =>
    cases h1
theorem rs_retN (h : tS Z mRetN D σ H) : tRetN D σ H := by
  obtain ⟨B, Hb, env, r, st, e, q⟩ := h
  cases e
  exact q .non σ Hb H st .rfl (.d .non)
theorem rs_retT {ma : MA} (h : tS Z (mRetT ma) D σ H) : tRet (tTup (tIA Z ma)) D σ H := by
  obtain ⟨B, Hb, env, r, st, e, q⟩ := h
  simp only [mRetT, Option.bind_eq_some_iff] at e
  obtain ⟨⟨xs, e1⟩, ha, e⟩ := e
  split at e
  · rename_i ok
    simp only [Option.bind_eq_some_iff] at e
    obtain ⟨ys, h1, h2⟩ := e
    cases h2
    refine ⟨B, Hb, env, xs, e1, st, ha, fun vs ps Hb' H' g1 rv => ?_⟩
    have hz : vs.length ≤ 1000 := by rw [rv.len]; exact ok.2
    refine ⟨Nat.le_trans hz (by decide), fun p hp => ?_⟩
    have n := Nx.new (o := .tup vs) g1.st.sub hp
    have g2 := g1.nx n
    have rv2 := rv.keep (fun p hp => own_some st p (g1.ow p hp)) n.to
    obtain ⟨ps', w, _⟩ := rv2.noσ g2.st (fun p hp => own_some st p (g2.ow p hp)) st.h0 ok.1 h1
    exact q _ σ _ _ g2.st g2.ny.kb (.tup (.inl (.of upd_same)) w)
  · cases e
end
end Ol
set_option Elab.async false
set_option linter.all false
set_option maxRecDepth 100000
set_option maxHeartbeats 4000000
/-! own: loops, comprehensions, methods, the body of a function -/
namespace Ol
open PySem PySem.Spec PyProof.Rows L2
abbrev MI := Env → Option (List D × Env)
def ItR (Z : Zn) (J : It) (ds : List D) (Hk : Hp) : Prop := ∃ (G : Hp → Prop) (Y : Nat → Hp → V → Hp → Prop), Walk J ds.length G Y ∧ (∀ H, Ex Hk H → G H) ∧
  ∀ (i : Nat) (Hb H : Hp) (x : V) (H' : Hp), i < ds.length → Ex Hk Hb → Ex Hb H → Y i H x H' → ∃ Hb' d, Nx Hb H Hb' H' ∧ ds[i]? = some d ∧ Dp Z.K Hb' x d
def tII (Z : Zn) (m : MI) : TI := fun σ H R => ∃ B Hb env ds env', Sta Z B Hb H σ env ∧ m env = some (ds, env') ∧ ∀ J Hb' H', Go Z B σ env Hb H env' Hb' H' → ItR Z J ds Hb' → R J H'
def forL (g : MG) (body : MS) : List D → Env → Option Rs
  | [], e => some (.nx e)
  | x :: r, e => (g (.d x) e).bind fun e1 => (body e1).bind fun rs => match rs with
    | .nx e2 => forL g body r e2
    | .ct e2 => forL g body r e2
    | .bk e2 => some (.nx e2)
    | .ret v e2 => some (.ret v e2)
def mFor (g : MG) (it : MI) (body : MS) : MS := fun env => (it env).bind fun x => forL g body x.1 x.2
def wipeE (e : Env) : List Nat → Env
  | [] => e
  | v :: vs => sset (wipeE e vs) v none
/-- the slots vs as they were in e -/
def restE (e z : Env) : List Nat → Env
  | [] => z
  | v :: vs => sset (restE e z vs) v (sget e v)
def compL (own : List Nat) (g : MG) (c : MT) (elt : ME) : List D → Env → List D → Option (List D × Env)
  | [], e, acc => some (acc, e)
  | x :: r, e, acc => (g (.d x) e).bind fun e1 => (c e1).bind fun b => if b.1 = true then (elt b.2).bind fun y => (fz y.1).bind fun d => if acc.length < 100000 then compL own g c elt r (wipeE y.2 own) (acc ++ [d]) else none else compL own g c elt r (wipeE b.2 own) acc
def mComp (own : List Nat) (g : MG) (it : MI) (c : MT) (elt : ME) : ME := fun env => (it env).bind fun x => (compL own g c elt x.1 (wipeE x.2 own) []).bind fun z => some (.new (.lst z.1), restE x.2 z.2 own)
theorem wipeE_len {e : Env} : ∀ {vs : List Nat}, (wipeE e vs).length = e.length
  | [] => rfl
  | v :: vs => by unfold wipeE; rw [sset_length, wipeE_len]
theorem restE_len {e z : Env} : ∀ {vs : List Nat}, (restE e z vs).length = z.length
  | [] => rfl
  | v :: vs => by unfold restE; rw [sset_length, restE_len]
theorem wipeE_some {e : Env} {i : Nat} {sv : SV} : ∀ {vs : List Nat}, sget (wipeE e vs) i = some sv → sget e i = some sv ∧ i ∉ vs
  | [], h => ⟨h, by simp⟩
  | v :: vs, h => by
    unfold wipeE at h
    by_cases hi : v = i
    · subst hi; have z := sget_set_some h; cases z
    · rw [sget_set_ne hi] at h
      obtain ⟨h1, h2⟩ := wipeE_some h
      exact ⟨h1, fun m => by rcases List.mem_cons.mp m with z | z; exact hi z.symm; exact h2 z⟩
theorem restE_some {e z : Env} {i : Nat} {sv : SV} : ∀ {vs : List Nat}, sget (restE e z vs) i = some sv → (i ∈ vs ∧ sget e i = some sv) ∨ (i ∉ vs ∧ sget z i = some sv)
  | [], h => .inr ⟨by simp, h⟩
  | v :: vs, h => by
    unfold restE at h
    by_cases hi : v = i
    · subst hi; exact .inl ⟨List.mem_cons_self, sget_set_some h⟩
    · rw [sget_set_ne hi] at h
      rcases restE_some h with ⟨h1, h2⟩ | ⟨h1, h2⟩
      · exact .inl ⟨List.mem_cons_of_mem _ h1, h2⟩
      · exact .inr ⟨fun m => by rcases List.mem_cons.mp m with z | z; exact hi z.symm; exact h1 z, h2⟩
section
variable {Z : Zn} {B : Bs} {Hb H Hb1 H1 Hb2 Hb' H' H0 : Hp} {σ : L2.St} {env env1 env' : Env} {p : Addr} {o : Ob} {v : V} {pv : PV} {i : Nat}
theorem drop_cons {α : Type} {l : List α} {i : Nat} (h : i < l.length) : l.drop i = l[i] :: l.drop (i + 1) := List.drop_eq_getElem_cons h
theorem rs_for {g : MG} {is : List Nat} {it : MI} {body : MS} {D : Ends} (h : tS Z (mFor g it body) D σ H) : tFor (tII Z it) (tG Z is g) (tS Z body) D σ H := by
  obtain ⟨B, Hb, env, r, st, e, q⟩ := h
  simp only [mFor, Option.bind_eq_some_iff] at e
  obtain ⟨⟨ds, e1⟩, ha, h2⟩ := e
  refine ⟨B, Hb, env, ds, e1, st, ha, fun J Hk H1 g1 w => ?_⟩
  obtain ⟨G, Y, wk, hG, hY⟩ := w
  refine for_it wk (fun i σ H => ∃ Hb env, Sta Z B Hb H σ env ∧ Ex Hk Hb ∧ forL g body (ds.drop i) env = some r) ⟨Hk, e1, g1.st, .rfl, by simpa using h2⟩ (fun i σ H hi ⟨Hb, env, s, ek, _⟩ => hG H (ek.trans s.sub)) (fun i x σ2 H2 H3 hi ⟨Hb2, env2, s2, ek, hf⟩ y => ?_) (fun σ2 H2 ⟨Hb2, env2, s2, ek, hf⟩ => ?_)
  · obtain ⟨Hb3, d, n, hd, hx⟩ := hY i Hb2 H2 x H3 hi ek s2.sub y
    rw [drop_cons hi] at hf
    have ed : ds[i] = d := by
      have z := List.getElem?_eq_getElem hi
      rw [hd] at z
      exact (Option.some.inj z).symm
    rw [ed] at hf
    simp only [forL, Option.bind_eq_some_iff] at hf
    obtain ⟨e3, h3, rs, h4, h5⟩ := hf
    have s3 := s2.step n
    refine ⟨B, Hb3, H3, env2, .d d, e3, s3, own_some s3, s3.h0, .d hx, h3, fun σ' s4 _ _ => ⟨B, Hb3, e3, rs, s4, h4, ?_⟩⟩
    cases rs with
    | nx e4 => exact fun σ5 Hb5 H5 s5 w5 => ⟨Hb5, e4, s5, (ek.trans n.kb).trans w5, h5⟩
    | ct e4 => exact fun σ5 Hb5 H5 s5 w5 => ⟨Hb5, e4, s5, (ek.trans n.kb).trans w5, h5⟩
    | bk e4 => cases h5; exact fun σ5 Hb5 H5 s5 w5 => q σ5 Hb5 H5 s5 ((g1.ny.kb.trans (ek.trans n.kb)).trans w5)
    | ret v e4 => cases h5; exact fun v σ5 Hb5 H5 s5 w5 => q v σ5 Hb5 H5 s5 ((g1.ny.kb.trans (ek.trans n.kb)).trans w5)
  · rw [List.drop_eq_nil_of_le (Nat.le_refl _)] at hf
    cases hf
    exact q σ2 Hb2 H2 s2 (g1.ny.kb.trans ek)
theorem Sta.wipe (st : Sta Z B Hb H σ env) (vs : List Nat) : Sta Z B Hb H (L2.wipe σ vs) (wipeE env vs) := by
  have up : ∀ {i : Nat} {sv : SV}, sget (wipeE env vs) i = some sv → sget env i = some sv ∧ (L2.wipe σ vs)[i]? = σ[i]? := fun {i sv} h => by
    obtain ⟨h1, h2⟩ := wipeE_some h
    exact ⟨h1, wipe_out h2⟩
  refine ⟨st.ny, fun i sv h => ?_, fun i j p b o b' o' h1 h2 h3 h4 => ?_, by rw [wipe_length, wipeE_len]; exact st.len⟩
  · obtain ⟨h1, h2⟩ := up h
    have w := st.sl i sv h1
    cases sv with
    | d x => obtain ⟨u, q1, q2⟩ := w; exact ⟨u, h2.trans q1, q2⟩
    | own b o => obtain ⟨u, q1, q2⟩ := w; exact ⟨u, h2.trans q1, q2⟩
  · obtain ⟨a1, a2⟩ := up h1
    obtain ⟨b1, b2⟩ := up h2
    rw [a2] at h3
    rw [b2] at h4
    exact st.df i j p _ _ _ _ a1 b1 h3 h4
theorem Ow.wipe {vs : List Nat} (h : Ow (wipeE env vs) (L2.wipe σ vs) p) : ∃ (i : Nat) (b : Bool) (o : Ob), i ∉ vs ∧ sget env i = Option.some (SV.own b o) ∧ σ[i]? = Option.some (Option.some (V.ref p)) := by
  obtain ⟨i, b, o, h1, h2⟩ := h
  obtain ⟨h3, h4⟩ := wipeE_some h1
  rw [wipe_out h4] at h2
  exact ⟨i, b, o, h4, h3, h2⟩
/-- a block's slots come back as they were -/
theorem Go.rest {vs : List Nat} {z : Env} (st : Sta Z B Hb H σ env) (g : Go Z B (L2.wipe σ vs) (wipeE env vs) Hb H z Hb' H') : Go Z B σ env Hb H (restE env z vs) Hb' H' := by
  have sub : ∀ p, Ow (wipeE env vs) (L2.wipe σ vs) p → Ow env σ p := fun p h => let ⟨i, b, o, _, h1, h2⟩ := Ow.wipe h; ⟨i, b, o, h1, h2⟩
  have ny := g.ny.mono sub
  have sl : ∀ i sv, sget (restE env z vs) i = some sv → SlotR Z B Hb' H' σ i sv ∧ (∀ b o, sv = .own b o → ∀ p, σ[i]? = some (some (.ref p)) → (i ∈ vs ∧ sget env i = some (.own b o)) ∨ (i ∉ vs ∧ sget z i = some (.own b o) ∧ Ow (wipeE env vs) (L2.wipe σ vs) p)) := fun i sv h => by
    rcases restE_some h with ⟨h1, h2⟩ | ⟨h1, h2⟩
    · have w := st.sl i sv h2
      refine ⟨?_, fun b o e p hp => .inl ⟨h1, e ▸ h2⟩⟩
      cases sv with
      | d x => obtain ⟨u, q1, q2⟩ := w; exact ⟨u, q1, Dp.ex g.ny.kb q2⟩
      | own b o =>
        obtain ⟨p, q1, q2, q3, q4⟩ := w
        refine ⟨p, q1, g.ny.fr p q3.some q2, q3.at g.ny.kb fun u y => g.ny.kh p u (fun s => ?_) y, q4⟩
        obtain ⟨j, b', o', j1, j2, j3⟩ := Ow.wipe s
        exact j1 (st.df i j p _ _ _ _ h2 j2 q1 j3 ▸ h1)
    · have w := g.st.sl i sv h2
      have hw : (L2.wipe σ vs)[i]? = σ[i]? := wipe_out h1
      refine ⟨?_, fun b o e p hp => .inr ⟨h1, e ▸ h2, g.ow p ⟨i, b, o, e ▸ h2, hw.trans hp⟩⟩⟩
      cases sv with
      | d x => obtain ⟨u, q1, q2⟩ := w; exact ⟨u, hw ▸ q1, q2⟩
      | own b o => obtain ⟨p, q1, q2⟩ := w; exact ⟨p, hw ▸ q1, q2⟩
  refine ⟨ny, ⟨st.ny.base ny st.own0, fun i sv h => (sl i sv h).1, fun i j p b o b' o' h1 h2 h3 h4 => ?_, ?_⟩, fun p ⟨i, b, o, h1, h2⟩ => ?_⟩
  · rcases (sl i _ h1).2 b o rfl p h3 with ⟨a1, a2⟩ | ⟨a1, a2, a3⟩
    · rcases (sl j _ h2).2 b' o' rfl p h4 with ⟨b1, b2⟩ | ⟨b1, b2, b3⟩
      · exact st.df i j p _ _ _ _ a2 b2 h3 h4
      · obtain ⟨k, _, _, k1, k2, k3⟩ := Ow.wipe b3
        exact absurd (st.df i k p _ _ _ _ a2 k2 h3 k3 ▸ a1) k1
    · rcases (sl j _ h2).2 b' o' rfl p h4 with ⟨b1, b2⟩ | ⟨b1, b2, b3⟩
      · obtain ⟨k, _, _, k1, k2, k3⟩ := Ow.wipe a3
        exact absurd (st.df j k p _ _ _ _ b2 k2 h4 k3 ▸ b1) k1
      · exact g.st.df i j p _ _ _ _ a2 b2 ((wipe_out a1).trans h3) ((wipe_out b1).trans h4)
  · rw [restE_len, ← g.st.len, wipe_length]
  · rcases (sl i _ h1).2 b o rfl p h2 with ⟨_, a2⟩ | ⟨_, _, a3⟩
    · exact ⟨i, b, o, a2, h2⟩
    · exact sub p a3
theorem Ny.upd {S : Addr → Prop} {D : Addr} {o : HO} (n : Ny S Hb H Hb' H') (h0 : H D = none) (h1 : Hb' D = none) : Ny S Hb H Hb' (upd H' D o) :=
  ⟨n.kb, n.sub.own h1, fun a u s e => by rw [upd_ne (ne_of_none e h0)]; exact n.kh a u s e, fun a e => by
    rw [upd_ne (fun z => e (by rw [z]; exact h0))]
    exact n.al a e, n.fr⟩
/-- a new object of one's own that no slot holds is written -/
theorem Sta.updN {D : Addr} {u : HO} (st : Sta Z B Hb H σ env) (h0 : B.H0 D = none) (hb : Hb D = none) (hn : ¬ Ow env σ D) : Sta Z B Hb (upd H D u) σ env := by
  refine ⟨st.ny.upd h0 hb, fun i sv e => ?_, st.df, st.len⟩
  have w := st.sl i sv e
  cases sv with
  | d x => exact w
  | own b o =>
    obtain ⟨p, q1, q2, q3, q4⟩ := w
    exact ⟨p, q1, q2, q3.at .rfl fun z y => by
      rw [upd_ne (fun hpd => hn ⟨i, b, o, e, by rw [← hpd]; exact q1⟩)]
      exact y, q4⟩
theorem wipe_at {τ : L2.St} {j : Nat} : ∀ {us : List Nat}, j ∈ us → (L2.wipe τ us)[j]? = if j < τ.length then some none else none
  | [], z => by simp at z
  | u :: us, z => by
    unfold L2.wipe
    by_cases hu : u = j
    · subst hu; simp [List.getElem?_set, wipe_length]
    · rw [List.getElem?_set_ne hu]
      exact wipe_at (by rcases List.mem_cons.mp z with q | q; exact absurd q.symm hu; exact q)
theorem wipe_wipe {τ : L2.St} {us : List Nat} : L2.wipe (L2.wipe τ us) us = L2.wipe τ us := by
  apply List.ext_getElem?
  intro j
  by_cases hj : j ∈ us
  · rw [wipe_at hj, wipe_at hj, wipe_length]
  · rw [wipe_out hj]
theorem re_comp {own : List Nat} {g : MG} {is : List Nat} {it : MI} {c : MT} {elt : ME} {Q : VK} (hi : ∀ i ∈ is, i ∈ own) (h : tI Z (mComp own g it c elt) σ H Q) : tLc (tII Z it) (tG Z is g) (tIT Z c) (tI Z elt) own σ H Q := by
  obtain ⟨B, Hb, env, pv, env', st, e, q⟩ := h
  simp only [mComp, Option.bind_eq_some_iff] at e
  obtain ⟨⟨ds, e1⟩, ha, ⟨res, ez⟩, h2, h3⟩ := e
  cases h3
  refine ⟨B, Hb, env, ds, e1, st, ha, fun J Hk H1 g1 w => ?_⟩
  intro D hD
  obtain ⟨G, Y, wk, hG, hY⟩ := w
  have stW := g1.st.wipe own
  have hDb : Hk D = none := g1.st.sub.free hD
  have hD0 : B.H0 D = none := g1.st.h0 D hD
  have nOw : ¬ Ow (wipeE e1 own) (L2.wipe σ own) D := fun z => own_some stW D z hD
  -- the invariant
  refine lc_it wk (fun i H => ∃ Hb env acc xs, Go Z B (L2.wipe σ own) (wipeE e1 own) Hk H1 env Hb H ∧ H D = some (.lst xs) ∧ Hb D = none ∧ DpAll Z.K Hb xs acc ∧ compL own g c elt (ds.drop i) env acc = some (res, ez))
    ⟨Hk, wipeE e1 own, [], [], ⟨(Ny.refl g1.st.sub).upd hD hDb, stW.updN hD0 hDb nOw, fun _ z => z⟩, upd_same, hDb, .nil, by simpa using h2⟩
    (fun i H hi ⟨Hb, env, acc, xs, s, _⟩ => hG H (s.ny.kb.trans s.st.sub)) (fun i x H2 H3 hlt ⟨Hb2, env2, acc, xs, s2, c1, c2, c3, hf⟩ y => ?_) (fun H2 ⟨Hb2, env2, acc, xs, s2, c1, c2, c3, hf⟩ => ?_)
  · obtain ⟨Hb3, d, n, hd, hx⟩ := hY i Hb2 H2 x H3 hlt s2.ny.kb s2.st.sub y
    rw [drop_cons hlt] at hf
    have ed : ds[i] = d := by
      have z := List.getElem?_eq_getElem hlt
      rw [hd] at z
      exact (Option.some.inj z).symm
    rw [ed] at hf
    simp only [compL, Option.bind_eq_some_iff] at hf
    obtain ⟨e3, h3, ⟨b, e4⟩, h4, h5⟩ := hf
    have s3 := s2.nx n
    have d3 : H3 D = some (.lst xs) := n.kh D _ id c1
    have nb3 : Hb3 D = none := n.fr D (by rw [c1]; simp) c2
    have nOw2 : ∀ p, Ow env2 (L2.wipe σ own) p → p ≠ D := fun p hp z => nOw (z ▸ s2.ow p hp)
    refine ⟨B, Hb3, H3, env2, .d d, e3, s3.st, own_some s3.st, s3.st.h0, .d hx, h3, fun σ' s4 hwp how => ?_⟩
    have hw := hwp own hi
    rw [wipe_wipe] at hw
    refine ⟨hw, B, Hb3, e3, b, e4, s4, h4, fun Hb5 H5 g5 => ?_⟩
    -- D is apart from what the slots hold
    have ow4 : ∀ p, Ow e3 σ' p → p ≠ D := fun p hp z => by
      rcases how p hp with w | w
      · exact nOw2 p w z
      · rw [z, d3] at w; cases w
    have d5 : H5 D = some (.lst xs) := g5.ny.kh D _ (fun z => ow4 D z rfl) d3
    have nb5 : Hb5 D = none := g5.ny.fr D (by rw [d3]; simp) nb3
    -- what stands behind the turn, seen from its start
    have close : ∀ {Hb6 H6 : Hp} {e6 : Env}, Go Z B σ' e3 Hb3 H3 e6 Hb6 H6 → Go Z B (L2.wipe σ own) (wipeE e1 own) Hk H1 (wipeE e6 own) Hb6 H6 := fun {Hb6 H6 e6} g6 => by
      have k : ∀ p, Ow (wipeE e6 own) (L2.wipe σ own) p → Ow env2 (L2.wipe σ own) p := fun p ⟨j, bb, oo, z1, z2⟩ => by
        obtain ⟨z3, z4⟩ := wipeE_some z1
        have z5 : σ'[j]? = some (some (.ref p)) := by
          rw [wipe_out z4] at z2
          have z6 : (L2.wipe σ' own)[j]? = (L2.wipe σ own)[j]? := by rw [hw]
          rw [wipe_out z4, wipe_out z4] at z6
          rw [z6]
          exact z2
        have z7 := g6.ow p ⟨j, bb, oo, z3, z5⟩
        rcases how p z7 with w | w
        · exact w
        · exact absurd w (own_some s4 p z7)
      refine ⟨?_, ?_, fun p hp => s3.ow p (k p hp)⟩
      · have t : Ny (Ow (wipeE e1 own) (L2.wipe σ own)) Hb3 H3 Hb6 H6 := g6.ny.mono fun p hp => by
          rcases how p hp with w | w
          · exact s3.ow p w
          · exact absurd w (own_some s4 p hp)
        exact s3.ny.trans t
      · have z := g6.st.wipe own
        rw [hw] at z
        exact z
    cases b with
    | false =>
      simp only [Bool.false_eq_true, if_false] at h5 ⊢
      exact ⟨Hb5, _, acc, xs, close g5, d5, nb5, DpAll.ex (n.kb.trans g5.ny.kb) c3, h5⟩
    | true =>
      simp only [if_true, Option.bind_eq_some_iff] at h5 ⊢
      obtain ⟨⟨y0, e5⟩, h6, d', h7, h8⟩ := h5
      refine ⟨B, Hb5, e4, y0, e5, g5.st, h6, fun v Hb6 H6 g6 rv => ?_⟩
      split at h8
      · rename_i hz
        have ow5 : ∀ p, Ow e4 σ' p → p ≠ D := fun p hp => ow4 p (g5.ow p hp)
        have d6 : H6 D = some (.lst xs) := g6.ny.kh D _ (fun z => ow5 D z rfl) d5
        have nb6 : Hb6 D = none := g6.ny.fr D (by rw [d5]; simp) nb5
        have hxs : xs.length = acc.length := DpAll.length c3
        refine ⟨xs, d6, Nat.lt_of_lt_of_le (by rw [hxs]; exact hz) (by decide), ?_⟩
        -- the element comes to be known
        obtain ⟨Hb7, kn, kz, dv⟩ : ∃ Hb7, Kn H5 Hb6 H6 Hb7 ∧ Hb7 D = none ∧ Dp Z.K Hb7 v d' := by
          cases rv with
          | d a => cases h7; exact ⟨Hb6, ⟨.rfl, g6.st.sub, fun _ _ z => z⟩, nb6, a⟩
          | new a b1 c =>
            rename_i p o
            cases c with
            | lst y1 y2 =>
              cases h7
              refine ⟨_, ⟨Ex.new b1, upd_ex g6.st.sub y1, fun y w1 w2 => ?_⟩, ?_, .lst (.inl (.of upd_same)) (DpAll.ex (Ex.new b1) y2)⟩
              · rw [upd_ne (fun w => w1 (by rw [w]; exact a))]; exact w2
              · rw [upd_ne (fun w => by rw [← w, d5] at a; cases a)]; exact nb6
            | set _ => cases h7
            | dic _ _ _ => cases h7
            | dit _ _ => cases h7
          | slot a => cases h7
          | tup a t => cases h7
        have g7 := (g5.trans g6).know s4 (Hb2 := Hb7) ⟨kn.kb, kn.sub, fun a w1 w2 => kn.fr a (g5.ny.al a w1) w2⟩
        have g8 := close g7
        refine ⟨Hb7, _, acc ++ [d'], xs ++ [v], ⟨g8.ny.upd hD kz, g8.st.updN hD0 kz fun z => nOw (g8.ow D z), g8.ow⟩, upd_same, kz, DpAll.append (DpAll.ex ((n.kb.trans (g5.ny.kb.trans g6.ny.kb)).trans kn.kb) c3) (.cons dv .nil), h8⟩
      · cases h8
  · rw [List.drop_eq_nil_of_le (Nat.le_refl _)] at hf
    cases hf
    exact q (.ref D) Hb2 H2 (g1.trans (s2.rest g1.st)) (.new (g1.ny.back D hD) c2 (.lst c1 c3))
end
end Ol
set_option Elab.async false
set_option linter.all false
set_option maxRecDepth 100000
set_option maxHeartbeats 4000000
/-! own: methods, items, the body of a function -/
namespace Ol
open PySem PySem.Spec PyProof.Rows L2
@[simp] def Ob.kind : Ob → Nat
  | .lst _ => 0
  | .set _ => 1
  | .dic _ => 2
  | .dit _ => 3
/-- a method of the object that slot i holds (kd: its kind) -/
@[simp] def mMeth (kd : Nat) (i : Nat) (f : Ob → List D → Option (PV × Ob)) (a : MA) : ME := fun env => match sget env i with
  | some (.own _ o0) => if o0.kind = kd then (a env).bind fun xs => (fzs xs.1).bind fun ds => match sget xs.2 i with
    | some (.own b o) => (f o ds).bind fun r => some (r.1, sset xs.2 i (some (.own b r.2)))
    | _ => none
    else none
  | _ => none
/-- x[ix] = a, x the name of slot i -/
@[simp] def mSetIx (i : Nat) (f : Ob → D → D → Option Ob) (ix a : ME) : MS := fun env => (a env).bind fun x => (fz x.1).bind fun y => match sget x.2 i with
  | some (.own _ _) => (ix x.2).bind fun k => (fz k.1).bind fun kd => match sget k.2 i with
    | some (.own b o) => (f o kd y).bind fun o' => some (.nx (sset k.2 i (some (.own b o'))))
    | _ => none
  | _ => none
@[simp] def outsOf (e : Env) : Nat → List SV → Option (List (Option Ob))
  | _, [] => some []
  | i, .d _ :: r => (outsOf e (i + 1) r).bind fun os => some (none :: os)
  | i, .own _ _ :: r => match sget e i with
    | some (.own true o) => (outsOf e (i + 1) r).bind fun os => some (some o :: os)
    | _ => none
def runFn (np n : Nat) (body : MS) : Fn := fun svs => if svs.length = np then (body (svs.map some ++ List.replicate n none)).bind fun r => match r with
  | .nx e => (outsOf e 0 svs).bind fun os => some (.d .none, os)
  | .ret v e => (outsOf e 0 svs).bind fun os => some (v, os)
  | _ => none
  else none
def OpM (Z : Zn) (r : V → List V → Hp → VK → Prop) (f : Ob → List D → Option (PV × Ob)) : Prop := ∀ Hb H p o vs ds pv o', Ex Hb H → OwnR Z Hb H p o → Hb p = none → DpAll Z.K Hb vs ds → f o ds = some (pv, o') →
  ∀ Q : VK, (∀ v u, OwnR Z Hb (upd H p u) p o' → VR Z H Hb (upd H p u) [] v pv → Q v (upd H p u)) → r (.ref p) vs H Q
def OpS (Z : Zn) (r : V → V → V → Hp → (Hp → Prop) → Prop) (f : Ob → D → D → Option Ob) : Prop := ∀ Hb H p o k x dk d o', Ex Hb H → OwnR Z Hb H p o → Hb p = none → Dp Z.K Hb k dk → Dp Z.K Hb x d → f o dk d = some o' →
  ∀ Q : Hp → Prop, (∀ u, OwnR Z Hb (upd H p u) p o' → Q (upd H p u)) → r (.ref p) k x H Q
section
variable {Z : Zn} {B : Bs} {Hb H Hb1 H1 Hb2 Hb' H' H0 : Hp} {σ : L2.St} {env env1 env' : Env} {p : Addr} {o o' : Ob} {v : V} {pv : PV} {i : Nat} {b : Bool}
theorem Go.put {u : HO} (st : Sta Z B Hb H σ env) (g : Go Z B σ env Hb H env1 Hb1 H1) (hi : sget env1 i = some (.own b o)) (hs : σ[i]? = some (some (.ref p))) (hw : OwnR Z Hb1 (upd H1 p u) p o') :
    Go Z B σ env Hb H (sset env1 i (some (.own b o'))) Hb1 (upd H1 p u) := by
  obtain ⟨q, q1, q2, q3, q4⟩ := g.st.sl i _ hi
  rw [hs] at q1
  cases q1
  have hp : Ow env σ p := g.ow p ⟨i, b, o, hi, hs⟩
  have ny : Ny (Ow env σ) Hb H Hb1 (upd H1 p u) := ⟨g.ny.kb, g.st.sub.own q2, fun a w s e => by
    rw [upd_ne (fun z => s (by rw [z]; exact hp))]
    exact g.ny.kh a w s e, fun a e => by
    by_cases z : a = p
    · rw [z, upd_same]; simp
    · rw [upd_ne z]; exact g.ny.al a e, g.ny.fr⟩
  have at' : ∀ (j : Nat) (sv : SV), sget (sset env1 i (some (.own b o'))) j = some sv → (j = i ∧ sv = .own b o') ∨ (j ≠ i ∧ sget env1 j = some sv) := fun j sv h => by
    by_cases hj : i = j
    · subst hj; exact .inl ⟨rfl, (Option.some.inj (sget_set_some h)).symm⟩
    · rw [sget_set_ne hj] at h; exact .inr ⟨fun z => hj z.symm, h⟩
  have ow' : ∀ (j : Nat) (b2 : Bool) (o2 : Ob), sget (sset env1 i (some (.own b o'))) j = some (.own b2 o2) → ∃ b3 o3, sget env1 j = some (.own b3 o3) := fun j b2 o2 h => by
    rcases at' j _ h with ⟨rfl, _⟩ | ⟨_, z⟩
    · exact ⟨_, _, hi⟩
    · exact ⟨_, _, z⟩
  refine ⟨ny, ⟨st.ny.base ny st.own0, fun j sv h => ?_, fun j k q b2 o2 b3 o3 h1 h2 h3 h4 => ?_, by rw [sset_length]; exact g.st.len⟩, fun q ⟨j, b2, o2, h1, h2⟩ => ?_⟩
  · rcases at' j sv h with ⟨rfl, rfl⟩ | ⟨hj, h⟩
    · exact ⟨p, hs, q2, hw, q4⟩
    · have w := g.st.sl j sv h
      cases sv with
      | d x => exact w
      | own b2 o2 =>
        obtain ⟨p2, w1, w2, w3, w4⟩ := w
        refine ⟨p2, w1, w2, w3.at .rfl fun z y => ?_, w4⟩
        rw [upd_ne (fun e => hj (g.st.df j i p2 _ _ _ _ h hi w1 (by rw [e]; exact hs)))]
        exact y
  · obtain ⟨_, _, z1⟩ := ow' j _ _ h1
    obtain ⟨_, _, z2⟩ := ow' k _ _ h2
    exact g.st.df j k q _ _ _ _ z1 z2 h3 h4
  · obtain ⟨_, _, z1⟩ := ow' j _ _ h1
    exact g.ow q ⟨j, _, _, z1, h2⟩
theorem meth_at {kd : Nat} {f : Ob → List D → Option (PV × Ob)} {ma : MA} {r : V → List V → Hp → VK → Prop} {Q : VK} (hr : OpM Z r f) (h : tI Z (mMeth kd i f ma) σ H Q) :
    ∃ (p : Addr) (o0 : Ob) (Hb : Hp), σ[i]? = some (some (.ref p)) ∧ o0.kind = kd ∧ OwnR Z Hb H p o0 ∧ tIA Z ma σ H fun vs H1 => r (.ref p) vs H1 Q := by
  obtain ⟨B, Hb, env, pv, env', st, e, q⟩ := h
  unfold mMeth at e
  cases h0 : sget env i with
  | none => rw [h0] at e; cases e
  | some sv =>
    rw [h0] at e
    cases sv with
    | d x => cases e
    | own b0 o0 =>
      simp only at e
      split at e
      · rename_i hk
        simp only [Option.bind_eq_some_iff] at e
        obtain ⟨⟨xs, e1⟩, ha, ds, h1, e⟩ := e
        obtain ⟨p, q1, q2, q3, q4⟩ := st.sl i _ h0
        refine ⟨p, o0, Hb, q1, hk, q3, B, Hb, env, xs, e1, st, ha, fun vs ps Hb1 H1 g1 rv => ?_⟩
        obtain ⟨Hb2, g2, hd⟩ := g1.kn st rv h1
        cases h2 : sget e1 i with
        | none => simp [h2] at e
        | some sv =>
          simp only [h2] at e
          cases sv with
          | d x => cases e
          | own b o =>
            simp only [Option.bind_eq_some_iff] at e
            obtain ⟨⟨pv', o'⟩, hf, e⟩ := e
            cases e
            obtain ⟨p', w1, w2, w3, w4⟩ := g2.st.sl i _ h2
            rw [q1] at w1
            cases w1
            exact hr Hb2 H1 p o vs ds pv' o' g2.st.sub w3 w2 hd hf Q fun v u hw rw' => q v Hb2 _ (g2.put st h2 q1 hw) (rw'.anyσ.from g2.ny.back)
      · cases e
theorem re_methL {T : String} {f : Ob → List D → Option (PV × Ob)} {ma : MA} {r : V → List V → Hp → VK → Prop} {Q : VK} (hT : T = "list") (hr : OpM Z r f) (h : tI Z (mMeth 0 i f ma) σ H Q) : tBM Z.K T r (tVar i) (tIA Z ma) σ H Q := by
  subst hT
  obtain ⟨p, o0, Hb, h1, h2, h3, h4⟩ := meth_at hr h
  cases h3 with
  | lst a b => exact ⟨_, h1, .inl ⟨rfl, _, .inl (.of a)⟩, h4⟩
  | set a => cases h2
  | dic a b c => cases h2
  | dit a b => cases h2
theorem re_nilA {ma : MA} {Q : List V → Hp → Prop} (hn : ma = mNil) (h : tIA Z ma σ H Q) : Q [] H := by
  subst hn
  obtain ⟨B, Hb, env, pv, env', st, e, q⟩ := h
  cases e
  exact q [] [] Hb H (.refl st) .nil
theorem re_methL0 {T : String} {f : Ob → List D → Option (PV × Ob)} {r : V → List V → Hp → VK → Prop} {Q : VK} (hT : T = "list") (hr : OpM Z r f) (h : tI Z (mMeth 0 i f mNil) σ H Q) : tBM0 Z.K T r (tVar i) σ H Q := by
  subst hT
  obtain ⟨p, o0, Hb, h1, h2, h3, h4⟩ := meth_at hr h
  cases h3 with
  | lst a b => exact ⟨_, h1, .inl ⟨rfl, _, .inl (.of a)⟩, re_nilA rfl h4⟩
  | set a => cases h2
  | dic a b c => cases h2
  | dit a b => cases h2
theorem re_saddK {f : Ob → List D → Option (PV × Ob)} {ma : MA} {Q : VK} (hr : OpM Z (rSAddK Z.P Z.w) f) (h : tI Z (mMeth 1 i f ma) σ H Q) : tSAddK Z.P Z.w (tVar i) (tIA Z ma) σ H Q := by
  obtain ⟨p, o0, Hb, h1, h2, h3, h4⟩ := meth_at hr h
  cases h3 with
  | lst a b => cases h2
  | set a => exact ⟨_, h1, ⟨p, _, _, rfl, a⟩, h4⟩
  | dic a b c => cases h2
  | dit a b => cases h2
theorem fz_known {x : PV} {d : D} (st : Sta Z B Hb H σ env) (g : Go Z B σ env Hb H env1 Hb1 H1) (rv : VR Z H Hb1 H1 σ v x) (f : fz x = some d) : ∃ Hb2, Go Z B σ env Hb H env1 Hb2 H1 ∧ Dp Z.K Hb2 v d := by
  cases rv with
  | d a => cases f; exact ⟨Hb1, g, a⟩
  | new a b1 c =>
    rename_i p o
    cases c with
    | lst y1 y2 =>
      cases f
      refine ⟨_, g.know st ⟨Ex.new b1, upd_ex g.st.sub y1, fun y w1 w2 => ?_⟩, .lst (.inl (.of upd_same)) (DpAll.ex (Ex.new b1) y2)⟩
      rw [upd_ne (fun w => w1 (by rw [w]; exact a))]
      exact w2
    | set _ => cases f
    | dic _ _ _ => cases f
    | dit _ _ => cases f
  | slot a => cases f
  | tup a t => cases f
theorem rs_setIx {f : Ob → D → D → Option Ob} {ix a : ME} {r : V → V → V → Hp → (Hp → Prop) → Prop} {D : Ends} (hr : OpS Z r f) (h : tS Z (mSetIx i f ix a) D σ H) : tAsg (tI Z a) (gSub (tVar i) (tI Z ix) r) D σ H := by
  obtain ⟨B, Hb, env, rr, st, e, q⟩ := h
  simp only [mSetIx, Option.bind_eq_some_iff] at e
  obtain ⟨⟨x, e1⟩, ha, y, h1, e⟩ := e
  refine ⟨B, Hb, env, x, e1, st, ha, fun v Hb1 H1 g1 rv => ?_⟩
  obtain ⟨Hb2, g2, hd⟩ := fz_known st g1 rv h1
  cases h2 : sget e1 i with
  | none => simp [h2] at e
  | some sv =>
    simp only [h2] at e
    cases sv with
    | d x => cases e
    | own b0 o0 =>
      simp only [Option.bind_eq_some_iff] at e
      obtain ⟨⟨k, e2⟩, hb, dk, h3, e⟩ := e
      obtain ⟨p, q1, _⟩ := g2.st.sl i _ h2
      refine ⟨_, q1, B, Hb2, e1, k, e2, g2.st, hb, fun kv Hb3 H3 g3 rk => ?_⟩
      obtain ⟨Hb4, g4, hk⟩ := fz_known g2.st g3 rk h3
      cases h4 : sget e2 i with
      | none => simp [h4] at e
      | some sv =>
        simp only [h4] at e
        cases sv with
        | d x => cases e
        | own b o =>
          simp only [Option.bind_eq_some_iff] at e
          obtain ⟨o', hf, e⟩ := e
          cases e
          obtain ⟨p', w1, w2, w3, w4⟩ := g4.st.sl i _ h4
          rw [q1] at w1
          cases w1
          have gg := g2.trans g4
          exact hr Hb4 H3 p o kv v dk y o' gg.st.sub w3 w2 hk (Dp.ex g4.ny.kb hd) hf _ fun u hw => q σ Hb4 _ (gg.put st h4 q1 hw).st gg.ny.kb
theorem rs_aug {f : RV → RV → Option PV} {a : ME} {r : R2} {D : Ends} (hr : Op2 Z r f) (h : tS Z (mAug i f a) D σ H) : tAug i (tI Z a) r D σ H := by
  obtain ⟨B, Hb, env, rr, st, e, q⟩ := h
  unfold mAug at e
  cases h0 : sget env i with
  | none => rw [h0] at e; cases e
  | some sv =>
    rw [h0] at e
    cases sv with
    | own b o => cases e
    | d x =>
      simp only [Option.bind_eq_some_iff] at e
      obtain ⟨⟨y, e1⟩, ha, t, h1, pv, h2, e2, h3, e⟩ := e
      cases e
      obtain ⟨v, q1, q2⟩ := st.sl i _ h0
      refine ⟨v, q1, B, Hb, env, y, e1, st, ha, fun w Hb1 H1 g1 rv => ?_⟩
      refine hr Hb1 H1 v w _ t pv g1.st.sub (.ofDp g1.st.sub (Dp.ex g1.ny.kb q2)) (rv.rd g1.st h1) h2 _ fun z Hb2 H2 n rz => ?_
      have g2 := g1.nx n
      have rz' := (rz.from (H0 := H) g1.ny.back)
      obtain ⟨s, _⟩ := g2.st.store (v := z) (fun y hy => by subst hy; cases rz' with | d a => exact a) (fun o ho => by
        subst ho
        cases rz' with
        | new a b c => exact ⟨_, rfl, fun w => own_some st _ (g2.ow _ w) a, b, st.h0 _ a, c⟩) h3
      exact q _ Hb2 H2 s g2.ny.kb
/-! ### the body -/
theorem outsOf_get : ∀ {svs : List SV} {e : Env} {n : Nat} {os : List (Option Ob)}, outsOf e n svs = some os → ∀ (j : Nat), (∀ b o, svs[j]? = some (.own b o) → ∃ o', sget e (n + j) = some (.own true o') ∧ os[j]? = some (some o')) ∧ ∀ x o', svs[j]? = some (.d x) → os[j]? = some (some o') → False
  | [], _, _, _, h, j => ⟨fun b o z => by simp at z, fun x o z => by simp at z⟩
  | .d y :: r, e, n, _, h, j => by
    simp only [outsOf, Option.bind_eq_some_iff] at h
    obtain ⟨os, h1, h2⟩ := h
    cases h2
    cases j with
    | zero => exact ⟨fun b o z => by simp at z, fun x o' _ z => by simp at z⟩
    | succ j =>
      have w := outsOf_get h1 j
      rw [show n + 1 + j = n + (j + 1) by omega] at w
      exact ⟨fun b o z => by simpa using w.1 b o (by simpa using z), fun x o' z z' => w.2 x o' (by simpa using z) (by simpa using z')⟩
  | .own bb oo :: r, e, n, _, h, j => by
    simp only [outsOf] at h
    cases w0 : sget e n with
    | none => simp [w0] at h
    | some sv =>
      rw [w0] at h
      cases sv with
      | d y => cases h
      | own b1 o1 =>
        cases b1 with
        | false => cases h
        | true =>
          simp only [Option.bind_eq_some_iff] at h
          obtain ⟨os, h1, h2⟩ := h
          cases h2
          cases j with
          | zero => exact ⟨fun b o z => ⟨o1, w0, rfl⟩, fun x o' z _ => by simp at z⟩
          | succ j =>
            have w := outsOf_get h1 j
            rw [show n + 1 + j = n + (j + 1) by omega] at w
            exact ⟨fun b o z => by simpa using w.1 b o (by simpa using z), fun x o' z z' => w.2 x o' (by simpa using z) (by simpa using z')⟩
theorem sget_app {l : List SV} {n i : Nat} {sv : SV} (h : sget (l.map some ++ List.replicate n none) i = some sv) : l[i]? = some sv := by
  have z : ∀ (l : List SV) (i : Nat), sget (l.map some ++ List.replicate n none) i = some sv → l[i]? = some sv := by
    intro l
    induction l with
    | nil =>
      intro i h
      have w : ∀ (n i : Nat), sget (List.replicate n none) i ≠ some sv := by
        intro n
        induction n with
        | zero => intro i h; cases h
        | succ n ih => intro i h; cases i with
          | zero => cases h
          | succ i => exact ih i h
      exact absurd h (w n i)
    | cons x r ih =>
      intro i h
      cases i with
      | zero => simpa [sget] using h
      | succ i => simpa using ih i (by simpa [sget] using h)
  exact z l i h
theorem body_at {F : Fn} {np n : Nat} {body : MS} {N : List Str} {vs : List V} {H : Hp} {Q : VK} {E : XK} (hF : F = runFn np n body) (hN : N.length = np + n) (h : spI Z F vs H Q E) :
    tS Z body { nx := fun _ H' => Q .non H', rt := Q } (L2.start N vs) H := by
  subst hF
  obtain ⟨Hb, svs, r, outs, hl, st, hF, q⟩ := h
  unfold runFn at hF
  split at hF
  · rename_i hnp
    simp only [Option.bind_eq_some_iff] at hF
    obtain ⟨rs, hb, hF⟩ := hF
    have hv : ∀ (j : Nat) (v : V), (vs.map some)[j]? = some (some v) → (L2.start N vs)[j]? = some (some v) := fun j v e => by
      have z : j < (vs.map some).length := (List.getElem?_eq_some_iff.mp e).1
      unfold L2.start
      rw [List.getElem?_append_left z]
      exact e
    have st' : Sta Z ⟨Hb, H, Pw svs vs⟩ Hb H (L2.start N vs) (svs.map some ++ List.replicate n none) := by
      refine ⟨st.ny, fun i sv e => ?_, fun i j p b o b' o' h1 h2 h3 h4 => ?_, ?_⟩
      · have w := st.sl i sv (by rw [sget_map]; exact sget_app e)
        cases sv with
        | d x => obtain ⟨v, w1, w2⟩ := w; exact ⟨v, hv i v w1, w2⟩
        | own b o => obtain ⟨p, w1, w2⟩ := w; exact ⟨p, hv i _ w1, w2⟩
      · have a1 := sget_app h1
        have a2 := sget_app h2
        obtain ⟨p1, w1, _⟩ := st.sl i (.own b o) (by rw [sget_map]; exact a1)
        obtain ⟨p2, w2, _⟩ := st.sl j (.own b' o') (by rw [sget_map]; exact a2)
        rw [hv i _ w1] at h3
        rw [hv j _ w2] at h4
        cases h3
        cases h4
        exact st.df i j p _ _ _ _ (by rw [sget_map]; exact a1) (by rw [sget_map]; exact a2) w1 w2
      · unfold L2.start
        simp only [List.length_append, List.length_map, List.length_replicate]
        omega
    -- the end
    have fin : ∀ {v : V} {σ : L2.St} {Hb' H' : Hp} {e : Env}, Sta Z ⟨Hb, H, Pw svs vs⟩ Hb' H' σ e → outsOf e 0 svs = some outs → VR Z H Hb' H' [] v r → Q v H' := fun {v σ Hb' H' e} s ho rv => by
      refine q v Hb' H' s.ny ⟨fun j b o hj => ?_, fun j x o' h1 h2 => (outsOf_get ho j).2 x o' h1 h2⟩ rv
      obtain ⟨o', h1, h2⟩ := (outsOf_get ho j).1 b o hj
      rw [Nat.zero_add] at h1
      obtain ⟨p, w1, w2, w3, w4, _⟩ := s.sl j _ h1
      obtain ⟨b3, o3, y1, y2⟩ := w4 rfl
      refine ⟨p, o', ?_, h2, w2, w3⟩
      rw [List.getElem?_map] at y2
      cases z : vs[j]? with
      | none => rw [z] at y2; cases y2
      | some u => rw [z] at y2; simpa using y2
    refine ⟨⟨Hb, H, Pw svs vs⟩, Hb, _, rs, st', hb, ?_⟩
    cases rs with
    | nx e =>
      simp only [Option.bind_eq_some_iff] at hF
      obtain ⟨os, ho, hF⟩ := hF
      cases hF
      exact fun σ Hb' H' s _ => fin s ho (.d .non)
    | ret v e =>
      simp only [Option.bind_eq_some_iff] at hF
      obtain ⟨os, ho, hF⟩ := hF
      cases hF
      exact fun v σ Hb' H' s _ rv => fin s ho rv
    | bk e => cases hF
    | ct e => cases hF
  · cases hF
end
end Ol
set_option Elab.async false
set_option linter.all false
set_option maxRecDepth 100000
set_option maxHeartbeats 4000000
/-! own: what the operators and the built-ins compute on data -/
namespace Ol
open PySem PySem.Spec PyProof.Rows L2
open PySem.W (AlikeAll dataLt minD maxD min_tuple_data max_tuple_data)
section
variable {X : Cx}
/-- list + list, of any source -/
def rCatL (K : Fg) : R2 := fun x y H Q => ∃ l b xs zs, x = .ref l ∧ y = .ref b ∧ SqL K H l xs ∧ SqL K H b zs ∧ xs.length + zs.length ≤ sizeLine ∧ ∀ p, H p = none → Q (.ref p) (upd H p (.lst (xs ++ zs)))
theorem op_catL : OpR X (binaryOp .Add) (rCatL X.K) := by
  intro pins s σ H x y v u Q I rx ry h
  obtain ⟨l, b, xs, zs, rfl, rfl, hH, hB, hz, q⟩ := h
  cases rx
  cases ry
  obtain ⟨its, r, p, _⟩ := I.list hH
  obtain ⟨its2, r2, p2, _⟩ := I.list hB
  obtain ⟨⟨cls, dd, data, sl⟩, ho, hc, n, hd⟩ := p.isList
  obtain ⟨⟨cls2, dd2, data2, sl2⟩, ho2, hc2, n2, hd2⟩ := p2.isList
  simp only at hc hd hc2 hd2
  subst hc hd hc2 hd2
  have e : its.toArray ++ its2.toArray = (its ++ its2).toArray := by simp
  have hl := r.length
  have hl2 := r2.length
  refine concat_meets ⟨_, ho, rfl⟩ ⟨_, ho2, rfl⟩ noFill_list_add seq_list_add PySem.F.slot_list_add PySem.F.entry_list_add (PySem.F.args_list_add_2 _ _) (list_addW l b its.toArray its2.toArray n n2 dd dd2 sl sl2 (by simp only [List.size_toArray]; omega)) ⟨ho, ho2, ?_⟩
  rw [e]
  exact ⟨.ref _, _, I.lnew (t' := s.toks) (r.append r2) (by rw [List.length_append]; omega), rfl, q _ I.fresh⟩
/-- min, max of a tuple of ints -/
def rMinT (K : Fg) : List V → Hp → VK → Prop := fun vs H Q => ∃ (a : Addr) (x : Int) (ns : List Int), vs = [V.ref a] ∧ SqT K H a ((x :: ns).map V.int) ∧ ∀ m, m ∈ x :: ns → (∀ y, y ∈ x :: ns → m ≤ y) → Q (.int m) H
def rMaxT (K : Fg) : List V → Hp → VK → Prop := fun vs H Q => ∃ (a : Addr) (x : Int) (ns : List Int), vs = [V.ref a] ∧ SqT K H a ((x :: ns).map V.int) ∧ ∀ m, m ∈ x :: ns → (∀ y, y ∈ x :: ns → y ≤ m) → Q (.int m) H
theorem alike_ints (ns : List Int) : AlikeAll (ns.map PyData.int) := by
  refine ⟨fun x hx y hy => ?_, fun x hx => ?_⟩
  · obtain ⟨i, _, rfl⟩ := List.mem_map.mp hx
    obtain ⟨j, _, rfl⟩ := List.mem_map.mp hy
    rfl
  · obtain ⟨i, _, rfl⟩ := List.mem_map.mp hx
    simp
theorem depth_ints : ∀ ns : List Int, PyData.depthAll (ns.map PyData.int) = 0
  | [] => rfl
  | n :: r => by simp [PyData.depthAll, PyData.depth, depth_ints r]
theorem dataLt_int (i j : Int) : dataLt (.int i) (.int j) = decide (i < j) := by
  show PyProof.Rows.lexLt itemOrd [.inl i] [.inl j] = decide (i < j)
  have e : PyProof.Rows.lexLt itemOrd [.inl i] [.inl j] = (decide (i < j) || (!decide (j < i) && false)) := rfl
  rw [e, Bool.and_false, Bool.or_false]
theorem minD_ints : ∀ (ns : List Int) (x : Int), ∃ m, minD (.int x) (ns.map .int) = .int m ∧ m ∈ x :: ns ∧ ∀ y ∈ x :: ns, m ≤ y
  | [], x => ⟨x, rfl, by simp, by simp⟩
  | n :: r, x => by
    have e : minD (.int x) ((n :: r).map .int) = minD (.int (if n < x then n else x)) (r.map .int) := by
      show List.foldl _ _ _ = List.foldl _ _ _
      rw [List.map_cons, List.foldl_cons, dataLt_int]
      by_cases h : n < x <;> simp [h, minD]
    obtain ⟨m, h1, h2, h3⟩ := minD_ints r (if n < x then n else x)
    refine ⟨m, e.trans h1, ?_, fun y hy => ?_⟩
    · rcases List.mem_cons.mp h2 with z | z
      · rw [z]; split <;> simp
      · simp [z]
    · have h4 := h3 (if n < x then n else x) List.mem_cons_self
      rcases List.mem_cons.mp hy with z | z
      · subst z; split at h4 <;> omega
      · rcases List.mem_cons.mp z with z | z
        · subst z; split at h4 <;> omega
        · exact h3 y (List.mem_cons_of_mem _ z)
theorem maxD_ints : ∀ (ns : List Int) (x : Int), ∃ m, maxD (.int x) (ns.map .int) = .int m ∧ m ∈ x :: ns ∧ ∀ y ∈ x :: ns, y ≤ m
  | [], x => ⟨x, rfl, by simp, by simp⟩
  | n :: r, x => by
    have e : maxD (.int x) ((n :: r).map .int) = maxD (.int (if x < n then n else x)) (r.map .int) := by
      show List.foldl _ _ _ = List.foldl _ _ _
      rw [List.map_cons, List.foldl_cons, dataLt_int]
      by_cases h : x < n <;> simp [h, maxD]
    obtain ⟨m, h1, h2, h3⟩ := maxD_ints r (if x < n then n else x)
    refine ⟨m, e.trans h1, ?_, fun y hy => ?_⟩
    · rcases List.mem_cons.mp h2 with z | z
      · rw [z]; split <;> simp
      · simp [z]
    · have h4 := h3 (if x < n then n else x) List.mem_cons_self
      rcases List.mem_cons.mp hy with z | z
      · subst z; split at h4 <;> omega
      · rcases List.mem_cons.mp z with z | z
        · subst z; split at h4 <;> omega
        · exact h3 y (List.mem_cons_of_mem _ z)
theorem cr_minT (hc : X.calm = true) (hu : X.A.units + 64 < cLine) : CallR X (.builtin "min") (rMinT X.K) := by
  intro pins s σ H vs us Q I r h
  obtain ⟨a, x, ns, rfl, hs, q⟩ := h
  obtain ⟨its, rv, hl, _⟩ := I.tuple hs
  rw [Vals.ref1 r]
  obtain ⟨as, ra⟩ := L2.Dp.readsAll I ((x :: ns).map PyData.int) _ its (DpAll.toL (DpAll.ints (K := X.K) (H := H) (x :: ns)) (noDict_ints (x :: ns))) rv
  refine min_tuple_data (I.ok.hd hc) hl (by simpa using ra) (alike_ints (x :: ns)) (by have z := depth_ints (x :: ns); rw [List.map_cons] at z; rw [z]; omega) fun i v h' tk bs _ hr hk => ?_
  obtain ⟨m, h1, h2, h3⟩ := minD_ints ns x
  rw [h1] at hr
  cases hr
  exact ⟨.int m, H, I.kept hk, ⟨_, rfl⟩, q m h2 h3⟩
theorem cr_maxT (hc : X.calm = true) (hu : X.A.units + 64 < cLine) : CallR X (.builtin "max") (rMaxT X.K) := by
  intro pins s σ H vs us Q I r h
  obtain ⟨a, x, ns, rfl, hs, q⟩ := h
  obtain ⟨its, rv, hl, _⟩ := I.tuple hs
  rw [Vals.ref1 r]
  obtain ⟨as, ra⟩ := L2.Dp.readsAll I ((x :: ns).map PyData.int) _ its (DpAll.toL (DpAll.ints (K := X.K) (H := H) (x :: ns)) (noDict_ints (x :: ns))) rv
  refine max_tuple_data (I.ok.hd hc) hl (by simpa using ra) (alike_ints (x :: ns)) (by have z := depth_ints (x :: ns); rw [List.map_cons] at z; rw [z]; omega) fun i v h' tk bs _ hr hk => ?_
  obtain ⟨m, h1, h2, h3⟩ := maxD_ints ns x
  rw [h1] at hr
  cases hr
  exact ⟨.int m, H, I.kept hk, ⟨_, rfl⟩, q m h2 h3⟩
/-- key in dict -/
def rDinK (neg : Bool) : R2 := fun x y H Q => ∃ (a : Addr) (o : Option V), y = .ref a ∧ DGet H a x o ∧ Q (.bl (if neg then !o.isSome else o.isSome)) H
theorem or_dinK (hu : X.A.units + 64 < cLine) : OpR X (compareOp .In) (rDinK false) := by
  intro pins s σ H x y v u Q I rx ry h
  obtain ⟨a, o, rfl, g, q⟩ := h
  cases ry
  exact d_in (by omega) I g rx fun s3 I3 => ⟨.bl o.isSome, H, I3, rfl, q⟩
theorem or_dnotinK (hu : X.A.units + 64 < cLine) : OpR X (compareOp .NotIn) (rDinK true) := by
  intro pins s σ H x y v u Q I rx ry h
  obtain ⟨a, o, rfl, g, q⟩ := h
  cases ry
  exact d_notIn (by omega) I g rx fun s3 I3 => ⟨.bl (!o.isSome), H, I3, rfl, q⟩
end
/-! ### texts in order -/
def leS (a b : Str) : Bool := !ltCps b.cps.toList a.cps.toList
def sortS (zs : List Str) : List Str := zs.mergeSort leS
theorem leS_iff {a b : Str} : leS a b = true ↔ a.cps.toList ≤ b.cps.toList := by
  unfold leS
  rw [ltCps_eq]
  simp
theorem leS_trans (a b c : Str) (h1 : leS a b = true) (h2 : leS b c = true) : leS a c = true := leS_iff.mpr (List.le_trans (leS_iff.mp h1) (leS_iff.mp h2))
theorem leS_total (a b : Str) : (leS a b || leS b a) = true := by
  rw [Bool.or_eq_true, leS_iff, leS_iff]
  exact List.le_total _ _
theorem leS_anti {a b : Str} (h1 : leS a b = true) (h2 : leS b a = true) : a = b := by
  have z := List.le_antisymm (leS_iff.mp h1) (leS_iff.mp h2)
  obtain ⟨⟨a⟩⟩ := a
  obtain ⟨⟨b⟩⟩ := b
  simp at z
  rw [z]
theorem rising_pair : ∀ {l : List Str} {p : Str}, risingS p l = true → (p :: l).Pairwise fun a b => leS a b = true
  | [], p, _ => by simp
  | x :: r, p, h => by
    have h' : (leS p x && risingS x r) = true := h
    rw [Bool.and_eq_true] at h'
    have ih := rising_pair h'.2
    refine List.pairwise_cons.mpr ⟨fun b hb => ?_, ih⟩
    rcases List.mem_cons.mp hb with z | z
    · rw [z]; exact h'.1
    · exact leS_trans _ _ _ h'.1 (List.rel_of_pairwise_cons ih z)
theorem sortS_of {ys zs : List Str} (h1 : ys.Perm zs) (h2 : sortedS ys = true) : ys = sortS zs := by
  have hp : ys.Pairwise fun a b => leS a b = true := by
    cases ys with
    | nil => simp
    | cons x r => exact rising_pair h2
  have hq := List.pairwise_mergeSort (le := leS) leS_trans leS_total zs
  exact List.Perm.eq_of_pairwise (le := fun a b => leS a b = true) (fun a b _ _ => leS_anti) hp hq (h1.trans (List.mergeSort_perm zs leS).symm)
end Ol
set_option Elab.async false
set_option linter.all false
set_option maxRecDepth 100000
set_option maxHeartbeats 4000000
/-! own: what the operators and the built-ins compute on data, as functions -/
namespace Ol
open PySem PySem.Spec PyProof.Rows L2
section
variable {Z : Zn} {Hb H : Hp}
abbrev iD (i : Int) : PV := .d (.int i)
abbrev bD (b : Bool) : PV := .d (.bool b)
theorem vrI {H0 : Hp} {σ : L2.St} (i : Int) : VR Z H0 Hb H σ (.int i) (iD i) := .d (.int i)
theorem vrB {H0 : Hp} {σ : L2.St} (b : Bool) : VR Z H0 Hb H σ (.bl b) (bD b) := .d (.bl b)
@[simp] def oAdd : RV → RV → Option PV
  | .d (.int i), .d (.int j) => some (iD (i + j))
  | .d (.str a), .d (.str b) => if a.length + b.length ≤ 100000 then some (.d (.str (a ++ b))) else none
  | .d (.tuple xs), .d (.tuple ys) => if xs.length + ys.length ≤ 100000 then some (.d (.tuple (xs ++ ys))) else none
  | .d (.list xs), .d (.list ys) => if xs.length + ys.length ≤ 100000 then some (.new (.lst (xs ++ ys))) else none
  | _, _ => none
def rAddU (K : Fg) : R2 := fun x y H Q => rI0 (fun i j => .int (i + j)) x y H Q ∨ (∃ i j, x = .str i ∧ y = .str j ∧ i.length + j.length ≤ sizeLine ∧ Q (.str (i ++ j)) H) ∨ rCatN K x y H Q ∨ rCatL K x y H Q
theorem op_addU {X : Cx} : OpR X (binaryOp .Add) (rAddU X.K) := Ol.OpR.or op_add (Ol.OpR.or op_add_str (Ol.OpR.or op_catN op_catL))
theorem lineLe {n : Nat} (h : n ≤ 100000) : n ≤ sizeLine := Nat.le_trans h (by decide)
theorem s_add : Op2 Z (rAddU Z.K) oAdd := by
  intro Hb H x y dx dy pv e rx ry h Q q
  cases rx with
  | int i => cases ry with
    | int j => cases h; exact .inl ⟨i, j, rfl, rfl, q _ _ _ (.refl e) (vrI _)⟩
    | _ => cases h
  | str a => cases ry with
    | str b =>
      simp only [oAdd] at h
      split at h
      · rename_i hl
        cases h; exact .inr (.inl ⟨a, b, rfl, rfl, lineLe hl, q _ _ _ (.refl e) (.d (.str _))⟩)
      · cases h
    | _ => cases h
  | tup s1 t1 k1 => cases ry with
    | tup s2 t2 k2 =>
      rename_i p xs ds p2 xs2 ds2
      simp only [oAdd] at h
      split at h
      · rename_i hl
        cases h
        have l1 := DpAll.length t1
        have l2 := DpAll.length t2
        refine .inr (.inr (.inl ⟨_, _, xs, xs2, rfl, rfl, sqt_ex e s1, sqt_ex e s2, lineLe (by omega), fun z => ?_, fun _ z => ?_, fun _ _ p ob hp hob => ?_⟩))
        · subst z
          cases t1
          exact q _ _ _ (.refl e) (.d (.tup s2 t2 k2))
        · subst z
          cases t2
          rw [List.append_nil] at q
          exact q _ _ _ (.refl e) (.d (.tup s1 t1 (by simpa using k1)))
        · exact q _ _ _ (Nx.new e hp) (.d (.tup sqt_new (DpAll.ex (Ex.new (e.free hp)) (DpAll.append t1 t2)) fun _ => NoD.of hob))
      · cases h
    | _ => cases h
  | lst s1 t1 => cases ry with
    | lst s2 t2 =>
      simp only [oAdd] at h
      split at h
      · rename_i hl
        cases h
        have l1 := DpAll.length t1
        have l2 := DpAll.length t2
        exact .inr (.inr (.inr ⟨_, _, _, _, rfl, rfl, s1, s2, lineLe (by omega), fun p hp => q _ _ _ (Nx.newOwn e hp) (.new hp (e.free hp) (.lst upd_same (DpAll.append t1 t2)))⟩))
      · cases h
    | _ => cases h
  | _ => cases h
@[simp] def oII (f : Int → Int → Option PV) : RV → RV → Option PV
  | .d (.int i), .d (.int j) => f i j
  | _, _ => none
theorem s_ii {f : Int → Int → Option PV} {C : Int → Int → Prop} {g : Int → Int → Int} (hf : ∀ i j p, f i j = some p → C i j ∧ p = iD (g i j)) : Op2 Z (rI C fun i j => .int (g i j)) (oII f) := by
  intro Hb H x y dx dy pv e rx ry h Q q
  cases rx with
  | int i => cases ry with
    | int j =>
      obtain ⟨h1, rfl⟩ := hf i j pv h
      exact ⟨i, j, rfl, rfl, h1, q _ _ _ (.refl e) (vrI _)⟩
    | _ => cases h
  | _ => cases h
theorem s_ii0 {g : Int → Int → Int} : Op2 Z (rI0 fun i j => .int (g i j)) (oII fun i j => some (iD (g i j))) := by
  intro Hb H x y dx dy pv e rx ry h Q q
  cases rx with
  | int i => cases ry with
    | int j => cases h; exact ⟨i, j, rfl, rfl, q _ _ _ (.refl e) (vrI _)⟩
    | _ => cases h
  | _ => cases h
theorem s_ib {g : Int → Int → Bool} : Op2 Z (rI0 fun i j => .bl (g i j)) (oII fun i j => some (bD (g i j))) := by
  intro Hb H x y dx dy pv e rx ry h Q q
  cases rx with
  | int i => cases ry with
    | int j => cases h; exact ⟨i, j, rfl, rfl, q _ _ _ (.refl e) (vrB _)⟩
    | _ => cases h
  | _ => cases h
@[simp] def oSub := oII fun i j => some (iD (i - j))
@[simp] def oLt := oII fun i j => some (bD (decide (i < j)))
@[simp] def oLe := oII fun i j => some (bD (decide (i ≤ j)))
@[simp] def oGt := oII fun i j => some (bD (decide (j < i)))
@[simp] def oGe := oII fun i j => some (bD (decide (j ≤ i)))
instance {i j : Int} : Decidable (CMulW i j) := by unfold CMulW; infer_instance
instance {i j : Int} : Decidable (CDiv i j) := by unfold CDiv; infer_instance
instance {i j : Int} : Decidable (CPowW i j) := by unfold CPowW; infer_instance
@[simp] def oMul := oII fun i j => if CMulW i j then some (iD (i * j)) else none
@[simp] def oDiv := oII fun i j => if CDiv i j then some (iD (i / j)) else none
@[simp] def oMod := oII fun i j => if 0 < j then some (iD (i % j)) else none
@[simp] def oPow := oII fun i j => if CPowW i j then some (iD (i ^ j.toNat)) else none
theorem s_sub : Op2 Z (rI0 fun i j => .int (i - j)) oSub := s_ii0
theorem s_lt : Op2 Z (rI0 fun i j => .bl (decide (i < j))) oLt := s_ib
theorem s_le : Op2 Z (rI0 fun i j => .bl (decide (i ≤ j))) oLe := s_ib
theorem s_gt : Op2 Z (rI0 fun i j => .bl (decide (j < i))) oGt := s_ib
theorem s_ge : Op2 Z (rI0 fun i j => .bl (decide (j ≤ i))) oGe := s_ib
theorem s_mul : Op2 Z (rI CMulW fun i j => .int (i * j)) oMul := s_ii fun i j p h => by
  split at h
  · rename_i c; cases h; exact ⟨c, rfl⟩
  · cases h
theorem s_div : Op2 Z (rI CDiv fun i j => .int (i / j)) oDiv := s_ii fun i j p h => by
  split at h
  · rename_i c; cases h; exact ⟨c, rfl⟩
  · cases h
theorem s_mod : Op2 Z (rI (fun _ j => 0 < j) fun i j => .int (i % j)) oMod := s_ii fun i j p h => by
  split at h
  · rename_i c; cases h; exact ⟨c, rfl⟩
  · cases h
theorem s_pow : Op2 Z (rI CPowW fun i j => .int (i ^ j.toNat)) oPow := s_ii fun i j p h => by
  split at h
  · rename_i c; cases h; exact ⟨c, rfl⟩
  · cases h
@[simp] def oEq : RV → RV → Option PV
  | .d x, .d y => if SeqAt.shaped x = true ∧ SeqAt.shaped y = true then some (bD (PyData.eqv x y)) else none
  | _, _ => none
@[simp] def oNe : RV → RV → Option PV
  | .d x, .d y => if SeqAt.shaped x = true ∧ SeqAt.shaped y = true then some (bD (!PyData.eqv x y)) else none
  | _, _ => none
theorem RdR.some_d {x : V} {r : RV} (h : RdR Z Hb H x r) {d : D} (e : r = .d d) (ex : Ex Hb H) : Dp Z.K H x d := by subst e; exact h.dp ex
theorem s_eq : Op2 Z (rEqD Z.K) oEq := by
  intro Hb H x y dx dy pv e rx ry h Q q
  unfold oEq at h
  split at h
  · split at h
    · rename_i c
      cases h
      exact ⟨_, _, (rx.dp e).toL (noDict_shaped c.1), (ry.dp e).toL (noDict_shaped c.2), c.1, c.2, q _ _ _ (.refl e) (vrB _)⟩
    · cases h
  · cases h
theorem s_ne : Op2 Z (rNeD Z.K) oNe := by
  intro Hb H x y dx dy pv e rx ry h Q q
  unfold oNe at h
  split at h
  · split at h
    · rename_i c
      cases h
      exact ⟨_, _, (rx.dp e).toL (noDict_shaped c.1), (ry.dp e).toL (noDict_shaped c.2), c.1, c.2, q _ _ _ (.refl e) (vrB _)⟩
    · cases h
  · cases h
/-- is None -/
@[simp] def isNon : RV → Bool
  | .d .none => true
  | _ => false
@[simp] def oIsN : RV → RV → Option PV
  | r, .d .none => some (bD (isNon r))
  | _, _ => none
@[simp] def oNotN : RV → RV → Option PV
  | r, .d .none => some (bD !(isNon r))
  | _, _ => none
theorem isNon_v {x : V} {r : RV} (h : RdR Z Hb H x r) : decide (x = .non) = isNon r := by
  cases h <;> simp [isNon]
theorem s_isN : Op2 Z (fun x y H Q => y = .non ∧ Q (.bl (decide (x = .non))) H) oIsN := by
  intro Hb H x y dx dy pv e rx ry h Q q
  unfold oIsN at h
  split at h
  · cases ry; cases h; refine ⟨rfl, ?_⟩; rw [isNon_v rx]; exact q _ _ _ (.refl e) (vrB _)
  · cases h
theorem s_notN : Op2 Z (fun x y H Q => y = .non ∧ Q (.bl (!decide (x = .non))) H) oNotN := by
  intro Hb H x y dx dy pv e rx ry h Q q
  unfold oNotN at h
  split at h
  · cases ry; cases h; refine ⟨rfl, ?_⟩; rw [isNon_v rx]; exact q _ _ _ (.refl e) (vrB _)
  · cases h
/-! in -/
def flatD : D → Bool
  | .none => true
  | .bool _ => true
  | .int _ => true
  | .str _ => true
  | _ => false
def tv : D → V
  | .none => .non
  | .bool b => .bl b
  | .int i => .int i
  | .str x => .str x
  | _ => .non
theorem tv_of {K : Fg} {d : D} {v : V} (h : Dp K H v d) (f : flatD d = true) : v = tv d ∧ flatV v = true := by
  cases h <;> first | exact ⟨rfl, rfl⟩ | cases f
theorem tvs_of {K : Fg} : ∀ {ds : List D} {vs : List V}, DpAll K H vs ds → ds.all flatD = true → vs = ds.map tv ∧ vs.all flatV = true
  | [], _, h, _ => by cases h; exact ⟨rfl, rfl⟩
  | d :: ds, _, h, f => by
    rw [List.all_cons, Bool.and_eq_true] at f
    cases h with
    | cons a b =>
      obtain ⟨h1, h2⟩ := tv_of a f.1
      obtain ⟨h3, h4⟩ := tvs_of b f.2
      exact ⟨by rw [h1, h3]; rfl, by rw [List.all_cons, h2, h4]; rfl⟩
def keyOf : D → Option Key
  | .int i => some (.inl i)
  | .str x => some (.inr x)
  | _ => none
theorem keyOf_v {K : Fg} {d : D} {v : V} {k : Key} (h : Dp K H v d) (e : keyOf d = some k) : v = kV k := by
  cases h <;> first | (cases e; rfl) | cases e
def hasK (kvs : List (Key × D)) (k : Key) : Bool := kvs.any fun kv => decide (kv.1 = k)
theorem hasK_v {us : List (Key × V)} {kvs : List (Key × D)} {k : Key} (h : us.map (·.1) = kvs.map (·.1)) : (valV us k).isSome = hasK kvs k := by
  induction us generalizing kvs with
  | nil => cases kvs with
    | nil => rfl
    | cons _ _ => cases h
  | cons u us ih =>
    cases kvs with
    | nil => cases h
    | cons w kvs =>
      simp only [List.map_cons, List.cons.injEq] at h
      by_cases e : u.1 = k
      · rw [valV_pos e]
        simp [hasK, ← h.1, e]
      · rw [valV_neg e, ih h.2]
        simp [hasK, ← h.1, e]
def oIn (neg : Bool) : RV → RV → Option PV
  | .d x, .d (.list ds) => if flatD x = true ∧ ds.all flatD = true then some (bD (neg ^^ inV (tv x) (ds.map tv))) else none
  | .d x, .d (.tuple ds) => if flatD x = true ∧ ds.all flatD = true then some (bD (neg ^^ inV (tv x) (ds.map tv))) else none
  | .d x, .s ks => (keyOf x).bind fun k => some (bD (neg ^^ memb ks k))
  | .d x, .m kvs => (keyOf x).bind fun k => some (bD (neg ^^ hasK kvs k))
  | .d (.str a), .d (.str b) => some (bD (neg ^^ !(Builtin.Str.occurrences b a 0 b.length 1).isEmpty))
  | _, _ => none
def rStrIn (neg : Bool) : R2 := fun x y H Q => ∃ i j, x = .str i ∧ y = .str j ∧ Q (.bl (neg ^^ !(Builtin.Str.occurrences j i 0 j.length 1).isEmpty)) H
def rInU (Z : Zn) (neg : Bool) : R2 := fun x y H Q => rIn Z.K neg x y H Q ∨ rSInK Z.P Z.w neg x y H Q ∨ rDinK neg x y H Q ∨ rStrIn neg x y H Q
theorem op_inU {X : Cx} (hu : X.A.units + 64 < cLine) : OpR X (compareOp .In) (rInU (zn X) false) := Ol.OpR.or op_in_seq (Ol.OpR.or or_sinK (Ol.OpR.or (or_dinK hu) (by
  intro pins s σ H x y v u Q I rx ry h
  obtain ⟨i, j, h1, h2, q⟩ := h
  rw [Bool.false_xor] at q
  exact op_in_str pins s σ H x y v u Q I rx ry ⟨i, j, h1, h2, q⟩)))
theorem op_notInU {X : Cx} (hu : X.A.units + 64 < cLine) : OpR X (compareOp .NotIn) (rInU (zn X) true) := Ol.OpR.or op_notIn_seq (Ol.OpR.or or_snotinK (Ol.OpR.or (or_dnotinK hu) (by
  intro pins s σ H x y v u Q I rx ry h
  obtain ⟨i, j, h1, h2, q⟩ := h
  rw [Bool.true_xor] at q
  exact op_notIn_str pins s σ H x y v u Q I rx ry ⟨i, j, h1, h2, q⟩)))
theorem xor_if (neg b : Bool) : (neg ^^ b) = if neg then !b else b := by cases neg <;> cases b <;> rfl
theorem s_in (neg : Bool) : Op2 Z (rInU Z neg) (oIn neg) := by
  intro Hb H x y dx dy pv e rx ry h Q q
  unfold oIn at h
  split at h
  · rename_i x1 ds
    cases ry with
    | lst s t =>
      split at h
      · rename_i c
        cases h
        obtain ⟨h1, h2⟩ := tv_of (rx.dp e) c.1
        obtain ⟨h3, h4⟩ := tvs_of t c.2
        refine .inl ⟨_, _, rfl, .inl s, h2, h4, ?_⟩
        rw [h1, h3, ← xor_if]
        exact q _ _ _ (.refl e) (vrB _)
      · cases h
  · cases ry with
    | tup s t _ =>
      split at h
      · rename_i c
        cases h
        obtain ⟨h1, h2⟩ := tv_of (rx.dp e) c.1
        obtain ⟨h3, h4⟩ := tvs_of t c.2
        refine .inl ⟨_, _, rfl, .inr (sqt_ex e s), h2, h4, ?_⟩
        rw [h1, h3, ← xor_if]
        exact q _ _ _ (.refl e) (vrB _)
      · cases h
  · cases ry with
    | s w =>
      simp only [Option.bind_eq_some_iff] at h
      obtain ⟨k, h1, h2⟩ := h
      cases h2
      cases w with
      | set w =>
        refine .inr (.inl ⟨k, _, _, _, keyOf_v (rx.dp e) h1, rfl, w, ?_⟩)
        rw [← xor_if]
        exact q _ _ _ (.refl e) (vrB _)
  · cases ry with
    | m w =>
      simp only [Option.bind_eq_some_iff] at h
      obtain ⟨k, h1, h2⟩ := h
      cases h2
      cases w with
      | dic w1 w2 w3 =>
        rename_i us
        refine .inr (.inr (.inl ⟨_, valV us k, rfl, ?_, ?_⟩))
        · rw [keyOf_v (rx.dp e) h1]; exact .k w1
        · rw [hasK_v w2, ← xor_if]
          exact q _ _ _ (.refl e) (vrB _)
  · cases rx with
    | str a => cases ry with
      | str b => cases h; exact .inr (.inr (.inr ⟨_, _, rfl, rfl, q _ _ _ (.refl e) (vrB _)⟩))
  · cases h
/-! items -/
def oIx : RV → RV → Option PV
  | .d (.list ds), .d (.int i) => (atI ds i).bind fun d => some (.d d)
  | .d (.tuple ds), .d (.int i) => (atI ds i).bind fun d => some (.d d)
  | .d (.str z), .d (.int i) => if z.length ≤ 100000 then (atI z.cps.toList i).bind fun c => some (.d (.str ⟨#[c]⟩)) else none
  | _, _ => none
theorem at_of {K : Fg} {ds : List D} {vs : List V} {i : Int} {d : D} (h : DpAll K H vs ds) (e : atI ds i = some d) : ∃ v, atI vs i = some v ∧ Dp K H v d := by
  unfold atI at e ⊢
  rw [DpAll.length h]
  cases z : ixN ds.length i with
  | none => rw [z] at e; cases e
  | some j =>
    rw [z] at e
    exact DpAll.get h e
theorem s_ix : Op2 Z (rIx Z.K) oIx := by
  intro Hb H x y dx dy pv e rx ry h Q q
  cases ry with
  | int i => cases rx with
    | lst s t =>
      simp only [oIx, Option.bind_eq_some_iff] at h
      obtain ⟨d, h1, h2⟩ := h
      cases h2
      obtain ⟨v, h3, h4⟩ := at_of t h1
      exact .inl ⟨_, _, i, v, rfl, rfl, s, h3, q _ _ _ (.refl e) (.d h4)⟩
    | tup s t _ =>
      simp only [oIx, Option.bind_eq_some_iff] at h
      obtain ⟨d, h1, h2⟩ := h
      cases h2
      obtain ⟨v, h3, h4⟩ := at_of t h1
      exact .inr (.inl ⟨_, _, i, v, rfl, rfl, sqt_ex e s, h3, q _ _ _ (.refl e) (.d h4)⟩)
    | str z =>
      simp only [oIx] at h
      split at h
      · rename_i hl
        simp only [Option.bind_eq_some_iff] at h
        obtain ⟨c, h1, h2⟩ := h
        cases h2
        exact .inr (.inr ⟨z, i, c, rfl, rfl, lineLe hl, h1, q _ _ _ (.refl e) (.d (.str _))⟩)
      · cases h
    | _ => cases h
  | _ => cases rx <;> cases h
@[simp] def oNeg : RV → Option PV
  | .d (.int i) => some (iD (-i))
  | _ => none
theorem s_neg : Op1 Z (rU fun i => .int (-i)) oNeg := by
  intro Hb H x dx pv e rx h Q q
  cases rx with
  | int i => cases h; exact ⟨i, rfl, q _ _ _ (.refl e) (vrI _)⟩
  | _ => cases h
/-! slices -/
abbrev MO := Env → Option (Option Int × Env)
def tIO (Z : Zn) (m : MO) : TO := fun σ H Q => ∃ B Hb env o env', Sta Z B Hb H σ env ∧ m env = some (o, env') ∧ ∀ Hb' H', Go Z B σ env Hb H env' Hb' H' → Q o H'
@[simp] def mNoP : MO := fun env => some (none, env)
@[simp] def mP (a : ME) : MO := fun env => (a env).bind fun x => match x.1 with
  | .d (.int i) => some (some i, x.2)
  | _ => none
def cutD (ds : List D) (lo hi : Option Int) : List D := (ds.drop (HT.sIx ds.length 0 lo)).take (HT.sIx ds.length ds.length hi - HT.sIx ds.length 0 lo)
@[simp] def oSl (lo hi : Option Int) : RV → Option PV
  | .d (.list ds) => some (.new (.lst (cutD ds lo hi)))
  | .d (.tuple ds) => some (.d (.tuple (cutD ds lo hi)))
  | _ => none
@[simp] def mSl (a : ME) (l h : MO) : ME := fun env => (a env).bind fun x => (l x.2).bind fun lo => (h lo.2).bind fun hi => (rd hi.2 x.1).bind fun r => (oSl lo.1 hi.1 r).bind fun p => some (p, hi.2)
def rSlU (K : Fg) : V → Option Int → Option Int → Hp → VK → Prop := fun x lo hi H Q => rSlN K x lo hi H Q ∨ rSlL K x lo hi H Q
theorem sl_U {X : Cx} : SlR X (rSlU X.K) := SlR.or sl_tupN sl_list
variable {σ : L2.St}
theorem re_noP {Q : Option Int → Hp → Prop} (h : tIO Z mNoP σ H Q) : tNoPart σ H Q := by
  obtain ⟨B, Hb, env, pv, env', st, e, q⟩ := h
  cases e
  exact q Hb H (.refl st)
theorem re_P {a : ME} {Q : Option Int → Hp → Prop} (h : tIO Z (mP a) σ H Q) : tPart (tI Z a) σ H Q := by
  obtain ⟨B, Hb, env, pv, env', st, e, q⟩ := h
  simp only [mP, Option.bind_eq_some_iff] at e
  obtain ⟨⟨x, e1⟩, ha, e⟩ := e
  refine ⟨B, Hb, env, x, e1, st, ha, fun v Hb1 H1 g1 rv => ?_⟩
  cases rv with
  | d a => cases a with
    | int i => cases e; exact ⟨i, rfl, q Hb1 H1 g1⟩
    | _ => cases e
  | _ => cases e
theorem s_sl {x : V} {dx : RV} {pv : PV} {lo hi : Option Int} (e : Ex Hb H) (rx : RdR Z Hb H x dx) (h : oSl lo hi dx = some pv) {Q : VK} (q : ∀ v Hb' H', Nx Hb H Hb' H' → VR Z H Hb' H' [] v pv → Q v H') : rSlU Z.K x lo hi H Q := by
  cases rx with
  | lst s t =>
    cases h
    have z := DpAll.cut t lo hi
    exact .inr ⟨_, _, rfl, s, fun p hp => q _ _ _ (Nx.newOwn e hp) (.new hp (e.free hp) (.lst upd_same z))⟩
  | tup s t nn =>
    cases h
    have z := DpAll.cut t lo hi
    refine .inl ⟨_, _, rfl, sqt_ex e s, fun w => ?_, fun w p ob hp hob => q _ _ _ (Nx.new e hp) (.d (.tup sqt_new (DpAll.ex (Ex.new (e.free hp)) z) fun _ => NoD.of hob))⟩
    refine q _ _ _ (.refl e) (.d ?_)
    have l := DpAll.length t
    rw [l] at w
    have y : ∀ ds : List D, HT.sIx ds.length 0 lo = 0 ∧ HT.sIx ds.length ds.length hi = ds.length → cutD ds lo hi = ds := fun ds w => by
      show (List.drop _ _).take _ = _
      rw [w.1, w.2, Nat.sub_zero, List.drop_zero, List.take_length]
    rw [y _ w]
    exact .tup s t nn
  | _ => cases h
theorem re_sl {a : ME} {l h : MO} {Q : VK} (hh : tI Z (mSl a l h) σ H Q) : tSl (rSlU Z.K) (tI Z a) (tIO Z l) (tIO Z h) σ H Q := by
  obtain ⟨B, Hb, env, pv, env', st, e, q⟩ := hh
  simp only [mSl, Option.bind_eq_some_iff] at e
  obtain ⟨⟨x, e1⟩, ha, ⟨lo, e2⟩, h1, ⟨hi, e3⟩, h2, r, h3, p, h4, e⟩ := e
  cases e
  refine ⟨B, Hb, env, x, e1, st, ha, fun v Hb1 H1 g1 rv => ⟨B, Hb1, e1, lo, e2, g1.st, h1, fun Hb2 H2 g2 => ⟨B, Hb2, e2, hi, _, g2.st, h2, fun Hb3 H3 g3 => ?_⟩⟩⟩
  have rv2 := (rv.keep (fun p hp => own_some st p (g1.ow p hp)) g2.ny).keep (fun p hp => own_some st p ((g1.trans g2).ow p hp)) g3.ny
  have gg := (g1.trans g2).trans g3
  exact s_sl g3.st.sub (rv2.rd g3.st h3) h4 fun w Hb4 H4 n rw => q w Hb4 H4 (gg.nx n) (rw.anyσ.from gg.ny.back)
end
end Ol
set_option Elab.async false
set_option linter.all false
set_option maxRecDepth 100000
set_option maxHeartbeats 4000000
/-! own: built-ins, methods, what is walked -/
namespace Ol
open PySem PySem.Spec PyProof.Rows L2
section
variable {Z : Zn} {Hb H : Hp} {σ : L2.St}
theorem rdrs1 {vs : List V} {r : RV} (h : RdRs Z Hb H vs [r]) : ∃ v, vs = [v] ∧ RdR Z Hb H v r := by
  cases h with
  | cons a t => cases t; exact ⟨_, rfl, a⟩
theorem rdrs2 {vs : List V} {r r' : RV} (h : RdRs Z Hb H vs [r, r']) : ∃ v w, vs = [v, w] ∧ RdR Z Hb H v r ∧ RdR Z Hb H w r' := by
  cases h with
  | cons a t => obtain ⟨w, rfl, b⟩ := rdrs1 t; exact ⟨_, w, rfl, a, b⟩
@[simp] def oLen : List RV → Option PV
  | [.d (.str z)] => if z.length ≤ 100000 then some (iD (z.length : Nat)) else none
  | [.d (.list ds)] => some (iD (ds.length : Nat))
  | [.d (.tuple ds)] => some (iD (ds.length : Nat))
  | [.s ks] => some (iD ((dist ks).length : Nat))
  | _ => none
def rLenU (Z : Zn) : List V → Hp → VK → Prop := fun xs H Q => (∃ x n, xs = [x] ∧ LenV Z.K x H n ∧ Q (.int n) H) ∨ rLenSet Z.P Z.w xs H Q
theorem cr_lenU {X : Cx} : CallR X (.builtin "len") (rLenU (zn X)) := Ol.CallR.or call_len call_lenSet
theorem s_len : OpN Z (rLenU Z) oLen := by
  intro Hb H vs rs pv e rr h Q q
  unfold oLen at h
  split at h
  · obtain ⟨v, rfl, r⟩ := rdrs1 rr
    cases r with
    | str z =>
      split at h
      · rename_i hl
        cases h; exact .inl ⟨_, _, rfl, ⟨lineLe hl, rfl⟩, q _ _ _ (.refl e) (vrI _)⟩
      · cases h
  · obtain ⟨v, rfl, r⟩ := rdrs1 rr
    cases r with
    | lst s t => cases h; exact .inl ⟨_, _, rfl, .inl ⟨_, s, (DpAll.length t).symm⟩, q _ _ _ (.refl e) (vrI _)⟩
  · obtain ⟨v, rfl, r⟩ := rdrs1 rr
    cases r with
    | tup s t _ => cases h; exact .inl ⟨_, _, rfl, .inr ⟨_, sqt_ex e s, (DpAll.length t).symm⟩, q _ _ _ (.refl e) (vrI _)⟩
  · obtain ⟨v, rfl, r⟩ := rdrs1 rr
    cases r with
    | s w => cases w with
      | set w => cases h; exact .inr ⟨_, _, _, rfl, w, q _ _ _ (.refl e) (vrI _)⟩
  · cases h
@[simp] def oInt : List RV → Option PV
  | [.d (.int i)] => some (iD i)
  | [.d (.bool b)] => some (iD (if b then 1 else 0))
  | _ => none
theorem s_int : OpN Z (fun xs H Q => (∃ i, xs = [.int i] ∧ Q (.int i) H) ∨ ∃ k, xs = [.bl k] ∧ Q (.int (if k then 1 else 0)) H) oInt := by
  intro Hb H vs rs pv e rr h Q q
  unfold oInt at h
  split at h
  · obtain ⟨v, rfl, r⟩ := rdrs1 rr
    cases r; cases h; exact .inl ⟨_, rfl, q _ _ _ (.refl e) (vrI _)⟩
  · obtain ⟨v, rfl, r⟩ := rdrs1 rr
    cases r; cases h; exact .inr ⟨_, rfl, q _ _ _ (.refl e) (vrI _)⟩
  · cases h
@[simp] def oAbs : List RV → Option PV
  | [.d (.int i)] => some (iD (if i < 0 then -i else i))
  | _ => none
theorem s_abs : OpN Z (fun xs H Q => ∃ i, xs = [.int i] ∧ Q (.int (if i < 0 then -i else i)) H) oAbs := by
  intro Hb H vs rs pv e rr h Q q
  unfold oAbs at h
  split at h
  · obtain ⟨v, rfl, r⟩ := rdrs1 rr
    cases r; cases h; exact ⟨_, rfl, q _ _ _ (.refl e) (vrI _)⟩
  · cases h
def intsOf : List D → Option (List Int)
  | [] => some []
  | .int i :: r => (intsOf r).bind fun s => some (i :: s)
  | _ => none
theorem intsOf_eq : ∀ {ds : List D} {ns : List Int}, intsOf ds = some ns → ds = ns.map .int
  | [], _, h => by cases h; rfl
  | .int i :: r, _, h => by
    simp only [intsOf, Option.bind_eq_some_iff] at h
    obtain ⟨s, h1, h2⟩ := h
    cases h2
    rw [intsOf_eq h1]
    rfl
  | .none :: _, _, h => by cases h
  | .bool _ :: _, _, h => by cases h
  | .str _ :: _, _, h => by cases h
  | .list _ :: _, _, h => by cases h
  | .tuple _ :: _, _, h => by cases h
  | .dict _ :: _, _, h => by cases h
def minL (x : Int) (ns : List Int) : Int := ns.foldl (fun a y => if y < a then y else a) x
def maxL (x : Int) (ns : List Int) : Int := ns.foldl (fun a y => if a < y then y else a) x
theorem minL_is : ∀ (ns : List Int) (x : Int), minL x ns ∈ x :: ns ∧ ∀ y ∈ x :: ns, minL x ns ≤ y
  | [], x => ⟨by simp [minL], by simp [minL]⟩
  | n :: r, x => by
    have e : minL x (n :: r) = minL (if n < x then n else x) r := rfl
    obtain ⟨h2, h3⟩ := minL_is r (if n < x then n else x)
    rw [e]
    refine ⟨?_, fun y hy => ?_⟩
    · rcases List.mem_cons.mp h2 with z | z
      · rw [z]; split <;> simp
      · simp [z]
    · have h4 := h3 (if n < x then n else x) List.mem_cons_self
      rcases List.mem_cons.mp hy with z | z
      · subst z; split at h4 <;> rename_i c <;> simp only [c, if_true, if_false] at h4 ⊢ <;> omega
      · rcases List.mem_cons.mp z with z | z
        · subst z; split at h4 <;> rename_i c <;> simp only [c, if_true, if_false] at h4 ⊢ <;> omega
        · exact h3 y (List.mem_cons_of_mem _ z)
theorem maxL_is : ∀ (ns : List Int) (x : Int), maxL x ns ∈ x :: ns ∧ ∀ y ∈ x :: ns, y ≤ maxL x ns
  | [], x => ⟨by simp [maxL], by simp [maxL]⟩
  | n :: r, x => by
    have e : maxL x (n :: r) = maxL (if x < n then n else x) r := rfl
    obtain ⟨h2, h3⟩ := maxL_is r (if x < n then n else x)
    rw [e]
    refine ⟨?_, fun y hy => ?_⟩
    · rcases List.mem_cons.mp h2 with z | z
      · rw [z]; split <;> simp
      · simp [z]
    · have h4 := h3 (if x < n then n else x) List.mem_cons_self
      rcases List.mem_cons.mp hy with z | z
      · subst z; split at h4 <;> rename_i c <;> simp only [c, if_true, if_false] at h4 ⊢ <;> omega
      · rcases List.mem_cons.mp z with z | z
        · subst z; split at h4 <;> rename_i c <;> simp only [c, if_true, if_false] at h4 ⊢ <;> omega
        · exact h3 y (List.mem_cons_of_mem _ z)
@[simp] def oMin : List RV → Option PV
  | [.d (.int i), .d (.int j)] => some (iD (if j < i then j else i))
  | [.d (.list ds)] => (intsOf ds).bind fun ns => match ns with
    | [] => none
    | x :: r => some (iD (minL x r))
  | [.d (.tuple ds)] => (intsOf ds).bind fun ns => match ns with
    | [] => none
    | x :: r => some (iD (minL x r))
  | _ => none
@[simp] def oMax : List RV → Option PV
  | [.d (.int i), .d (.int j)] => some (iD (if j > i then j else i))
  | [.d (.list ds)] => (intsOf ds).bind fun ns => match ns with
    | [] => none
    | x :: r => some (iD (maxL x r))
  | [.d (.tuple ds)] => (intsOf ds).bind fun ns => match ns with
    | [] => none
    | x :: r => some (iD (maxL x r))
  | _ => none
def rMinU (K : Fg) : List V → Hp → VK → Prop := fun xs H Q => (∃ i j, xs = [.int i, .int j] ∧ Q (.int (if j < i then j else i)) H) ∨ rMin K xs H Q ∨ rMinT K xs H Q
def rMaxU (K : Fg) : List V → Hp → VK → Prop := fun xs H Q => (∃ i j, xs = [.int i, .int j] ∧ Q (.int (if j > i then j else i)) H) ∨ rMax K xs H Q ∨ rMaxT K xs H Q
theorem cr_minU {X : Cx} (hc : X.calm = true) (hu : X.A.units + 64 < cLine) : CallR X (.builtin "min") (rMinU X.K) := Ol.CallR.or (call_min2 hc) (Ol.CallR.or (cr_min hc) (cr_minT hc hu))
theorem cr_maxU {X : Cx} (hc : X.calm = true) (hu : X.A.units + 64 < cLine) : CallR X (.builtin "max") (rMaxU X.K) := Ol.CallR.or (call_max2 hc) (Ol.CallR.or (cr_max hc) (cr_maxT hc hu))
theorem s_min : OpN Z (rMinU Z.K) oMin := by
  intro Hb H vs rs pv e rr h Q q
  unfold oMin at h
  split at h
  · obtain ⟨v, w, rfl, r, r'⟩ := rdrs2 rr
    cases r; cases r'; cases h; exact .inl ⟨_, _, rfl, q _ _ _ (.refl e) (vrI _)⟩
  · obtain ⟨v, rfl, r⟩ := rdrs1 rr
    cases r with
    | lst s t =>
      simp only [Option.bind_eq_some_iff] at h
      obtain ⟨ns, h1, h2⟩ := h
      have hd := intsOf_eq h1
      subst hd
      cases ns with
      | nil => cases h2
      | cons x ns =>
        cases h2
        have hv := DpAll.ints_inv t
        subst hv
        obtain ⟨m1, m2⟩ := minL_is ns x
        refine .inr (.inl ⟨_, x :: ns, rfl, s, by simp, fun m hm hl => ?_⟩)
        have z : m = minL x ns := by have a := hl _ m1; have b := m2 _ hm; omega
        rw [z]
        exact q _ _ _ (.refl e) (vrI _)
  · obtain ⟨v, rfl, r⟩ := rdrs1 rr
    cases r with
    | tup s t _ =>
      simp only [Option.bind_eq_some_iff] at h
      obtain ⟨ns, h1, h2⟩ := h
      have hd := intsOf_eq h1
      subst hd
      cases ns with
      | nil => cases h2
      | cons x ns =>
        cases h2
        have hv := DpAll.ints_inv t
        subst hv
        obtain ⟨m1, m2⟩ := minL_is ns x
        refine .inr (.inr ⟨_, x, ns, rfl, sqt_ex e s, fun m hm hl => ?_⟩)
        have z : m = minL x ns := by have a := hl _ m1; have b := m2 _ hm; omega
        rw [z]
        exact q _ _ _ (.refl e) (vrI _)
  · cases h
theorem s_max : OpN Z (rMaxU Z.K) oMax := by
  intro Hb H vs rs pv e rr h Q q
  unfold oMax at h
  split at h
  · obtain ⟨v, w, rfl, r, r'⟩ := rdrs2 rr
    cases r; cases r'; cases h; exact .inl ⟨_, _, rfl, q _ _ _ (.refl e) (vrI _)⟩
  · obtain ⟨v, rfl, r⟩ := rdrs1 rr
    cases r with
    | lst s t =>
      simp only [Option.bind_eq_some_iff] at h
      obtain ⟨ns, h1, h2⟩ := h
      have hd := intsOf_eq h1
      subst hd
      cases ns with
      | nil => cases h2
      | cons x ns =>
        cases h2
        have hv := DpAll.ints_inv t
        subst hv
        obtain ⟨m1, m2⟩ := maxL_is ns x
        refine .inr (.inl ⟨_, x :: ns, rfl, s, by simp, fun m hm hl => ?_⟩)
        have z : m = maxL x ns := by have a := hl _ m1; have b := m2 _ hm; omega
        rw [z]
        exact q _ _ _ (.refl e) (vrI _)
  · obtain ⟨v, rfl, r⟩ := rdrs1 rr
    cases r with
    | tup s t _ =>
      simp only [Option.bind_eq_some_iff] at h
      obtain ⟨ns, h1, h2⟩ := h
      have hd := intsOf_eq h1
      subst hd
      cases ns with
      | nil => cases h2
      | cons x ns =>
        cases h2
        have hv := DpAll.ints_inv t
        subst hv
        obtain ⟨m1, m2⟩ := maxL_is ns x
        refine .inr (.inr ⟨_, x, ns, rfl, sqt_ex e s, fun m hm hl => ?_⟩)
        have z : m = maxL x ns := by have a := hl _ m1; have b := m2 _ hm; omega
        rw [z]
        exact q _ _ _ (.refl e) (vrI _)
  · cases h
@[simp] def oList : List RV → Option PV
  | [.d (.list ds)] => some (.new (.lst ds))
  | [.d (.tuple ds)] => some (.new (.lst ds))
  | _ => none
@[simp] def oTuple : List RV → Option PV
  | [.d (.list ds)] => some (.d (.tuple ds))
  | [.d (.tuple ds)] => some (.d (.tuple ds))
  | _ => none
theorem s_list : OpN Z (fun xs H Q => ∃ p ys, xs = [.ref p] ∧ (SqL Z.K H p ys ∨ SqT Z.K H p ys) ∧ ∀ l, H l = none → Q (.ref l) (upd H l (.lst ys))) oList := by
  intro Hb H vs rs pv e rr h Q q
  unfold oList at h
  split at h
  · obtain ⟨v, rfl, r⟩ := rdrs1 rr
    cases r with
    | lst s t => cases h; exact ⟨_, _, rfl, .inl s, fun p hp => q _ _ _ (Nx.newOwn e hp) (.new hp (e.free hp) (.lst upd_same t))⟩
  · obtain ⟨v, rfl, r⟩ := rdrs1 rr
    cases r with
    | tup s t _ => cases h; exact ⟨_, _, rfl, .inr (sqt_ex e s), fun p hp => q _ _ _ (Nx.newOwn e hp) (.new hp (e.free hp) (.lst upd_same t))⟩
  · cases h
theorem s_tuple : OpN Z (fun xs H Q => ∃ p ys, xs = [.ref p] ∧ ((SqL Z.K H p ys ∧ NewT H ys Q) ∨ (SqT Z.K H p ys ∧ Q (.ref p) H))) oTuple := by
  intro Hb H vs rs pv e rr h Q q
  unfold oTuple at h
  split at h
  · obtain ⟨v, rfl, r⟩ := rdrs1 rr
    cases r with
    | lst s t => cases h; exact ⟨_, _, rfl, .inl ⟨s, fun p ob hp hob => q _ _ _ (Nx.new e hp) (.d (.tup sqt_new (DpAll.ex (Ex.new (e.free hp)) t) fun _ => NoD.of hob))⟩⟩
  · obtain ⟨v, rfl, r⟩ := rdrs1 rr
    cases r with
    | tup s t n => cases h; exact ⟨_, _, rfl, .inr ⟨sqt_ex e s, q _ _ _ (.refl e) (.d (.tup s t n))⟩⟩
  · cases h
def keysOf : List D → Option (List Key)
  | [] => some []
  | d :: r => (keyOf d).bind fun k => (keysOf r).bind fun ks => some (k :: ks)
theorem keysOf_v {K : Fg} : ∀ {ds : List D} {vs : List V} {ks : List Key}, DpAll K H vs ds → keysOf ds = some ks → vs = ks.map kV
  | [], _, _, h, e => by cases h; cases e; rfl
  | d :: ds, _, _, h, e => by
    simp only [keysOf, Option.bind_eq_some_iff] at e
    obtain ⟨k, h1, ks, h2, h3⟩ := e
    cases h3
    cases h with
    | cons a b => rw [keyOf_v a h1, keysOf_v b h2]; rfl
@[simp] def oSet : List RV → Option PV
  | [.d (.list ds)] => (keysOf ds).bind fun ks => if ks.length + 1 < scanBound then some (.new (.set ks)) else none
  | [.d (.tuple ds)] => (keysOf ds).bind fun ks => if ks.length + 1 < scanBound then some (.new (.set ks)) else none
  | _ => none
theorem s_set : OpN Z (rSetK Z.K Z.P Z.w) oSet := by
  intro Hb H vs rs pv e rr h Q q
  unfold oSet at h
  split at h
  · obtain ⟨v, rfl, r⟩ := rdrs1 rr
    cases r with
    | lst s t =>
      simp only [Option.bind_eq_some_iff] at h
      obtain ⟨ks, h1, h2⟩ := h
      have hv := keysOf_v t h1
      subst hv
      split at h2
      · rename_i hl
        cases h2
        exact ⟨_, ks, rfl, .inl s, hl, .inl fun p hp => q _ _ _ (Nx.newOwn e hp) (.new hp (e.free hp) (.set upd_same))⟩
      · cases h2
  · obtain ⟨v, rfl, r⟩ := rdrs1 rr
    cases r with
    | tup s t _ =>
      simp only [Option.bind_eq_some_iff] at h
      obtain ⟨ks, h1, h2⟩ := h
      have hv := keysOf_v t h1
      subst hv
      split at h2
      · rename_i hl
        cases h2
        exact ⟨_, ks, rfl, .inr (sqt_ex e s), hl, .inl fun p hp => q _ _ _ (Nx.newOwn e hp) (.new hp (e.free hp) (.set upd_same))⟩
      · cases h2
  · cases h
@[simp] def oSet0 : List RV → Option PV
  | [] => some (.new (.set []))
  | _ => none
theorem s_set0 : OpN Z (rSet0K Z.P Z.w) oSet0 := by
  intro Hb H vs rs pv e rr h Q q
  unfold oSet0 at h
  split at h
  · cases rr
    cases h
    refine ⟨rfl, fun p hp => q _ _ _ (Nx.newOwn e hp) (.new hp (e.free hp) (.set ?_))⟩
    rw [upd_same]
    have z : (fun _ : Key => false) = memb ([] : List Key) := funext fun k => by simp [memb]
    rw [z]
    rfl
  · cases h
def boolsOf : List D → Option (List Bool)
  | [] => some []
  | .bool i :: r => (boolsOf r).bind fun s => some (i :: s)
  | _ => none
theorem boolsOf_eq : ∀ {ds : List D} {ns : List Bool}, boolsOf ds = some ns → ds = ns.map .bool
  | [], _, h => by cases h; rfl
  | .bool i :: r, _, h => by
    simp only [boolsOf, Option.bind_eq_some_iff] at h
    obtain ⟨s, h1, h2⟩ := h
    cases h2
    rw [boolsOf_eq h1]
    rfl
  | .none :: _, _, h => by cases h
  | .int _ :: _, _, h => by cases h
  | .str _ :: _, _, h => by cases h
  | .list _ :: _, _, h => by cases h
  | .tuple _ :: _, _, h => by cases h
  | .dict _ :: _, _, h => by cases h
@[simp] def oAll : List RV → Option PV
  | [.d (.list ds)] => (boolsOf ds).bind fun bs => some (bD (bs.all id))
  | _ => none
@[simp] def oAny : List RV → Option PV
  | [.d (.list ds)] => (boolsOf ds).bind fun bs => some (bD (bs.any id))
  | _ => none
def oSum : List RV → Option PV
  | [.d (.list ds)] => (intsOf ds).bind fun ns => some (iD ns.sum)
  | _ => none
theorem s_all : OpN Z (rAll Z.K) oAll := by
  intro Hb H vs rs pv e rr h Q q
  unfold oAll at h
  split at h
  · obtain ⟨v, rfl, r⟩ := rdrs1 rr
    cases r with
    | lst s t =>
      simp only [Option.bind_eq_some_iff] at h
      obtain ⟨bs, h1, h2⟩ := h
      cases h2
      have hd := boolsOf_eq h1
      subst hd
      have hv := DpAll.bls_inv t
      subst hv
      exact ⟨_, bs, rfl, s, q _ _ _ (.refl e) (vrB _)⟩
  · cases h
theorem s_any : OpN Z (rAny Z.K) oAny := by
  intro Hb H vs rs pv e rr h Q q
  unfold oAny at h
  split at h
  · obtain ⟨v, rfl, r⟩ := rdrs1 rr
    cases r with
    | lst s t =>
      simp only [Option.bind_eq_some_iff] at h
      obtain ⟨bs, h1, h2⟩ := h
      cases h2
      have hd := boolsOf_eq h1
      subst hd
      have hv := DpAll.bls_inv t
      subst hv
      exact ⟨_, bs, rfl, s, q _ _ _ (.refl e) (vrB _)⟩
  · cases h
theorem s_sum : OpN Z (rSum Z.K) oSum := by
  intro Hb H vs rs pv e rr h Q q
  unfold oSum at h
  split at h
  · obtain ⟨v, rfl, r⟩ := rdrs1 rr
    cases r with
    | lst s t =>
      simp only [Option.bind_eq_some_iff] at h
      obtain ⟨bs, h1, h2⟩ := h
      cases h2
      have hd := intsOf_eq h1
      subst hd
      have hv := DpAll.ints_inv t
      subst hv
      exact ⟨_, bs, rfl, s, q _ _ _ (.refl e) (vrI _)⟩
  · cases h
/-! isinstance -/
@[simp] def tyD : RV → String
  | .d .none => "NoneType"
  | .d (.bool _) => "bool"
  | .d (.int _) => "int"
  | .d (.str _) => "str"
  | .d (.list _) => "list"
  | .d (.tuple _) => "tuple"
  | .d (.dict _) => "dict"
  | .m _ => "dict"
  | .s _ => "set"
  | .t _ => "dict"
@[simp] def noSet : RV → Bool
  | .s _ => false
  | .t _ => false
  | _ => true
theorem tyX_of {v : V} {r : RV} (e : Ex Hb H) (h : RdR Z Hb H v r) (n : noSet r = true) : TyX Z.K H v (.type (tyD r)) := by
  cases h with
  | non => exact .base .non
  | bl b => exact .base (.bl b)
  | int i => exact .base (.int i)
  | str x => exact .base (.str x)
  | lst s t =>
    rcases s with (s | ⟨o, s⟩) | ⟨o, its, n, s, hc, _⟩
    · exact .base (.lst s)
    · exact .base (.frz s)
    · exact .kList s hc
  | tup s t _ =>
    rcases sqt_ex e s with (s | ⟨o, s⟩) | ⟨o, its, n, s, hc, _⟩
    · exact .base (.tup s)
    · exact .fTuple s
    · exact .kTuple s hc
  | dic w => exact .base (.dK w)
  | s w => cases n
  | t w => cases n
  | m w => cases w with
    | dic w1 _ _ => exact .base (.dK w1)
@[simp] def isaB (a b : String) : Bool := a == b || (a == "bool" && b == "int")
@[simp] def isaOk (b : String) : Bool := ["str", "int", "bool", "list", "tuple", "dict"].contains b
theorem kitB_is {r : RV} {T : String} (h : isaOk T = true) (n : noSet r = true) : kitB (tyD r) T = some (isaB (tyD r) T) := by
  have hT : T = "str" ∨ T = "int" ∨ T = "bool" ∨ T = "list" ∨ T = "tuple" ∨ T = "dict" := by simpa [isaOk] using h
  have hR : tyD r = "NoneType" ∨ tyD r = "bool" ∨ tyD r = "int" ∨ tyD r = "str" ∨ tyD r = "list" ∨ tyD r = "tuple" ∨ tyD r = "dict" := by
    cases r with
    | d x => cases x <;> simp [tyD]
    | s _ => cases n
    | t _ => cases n
    | m _ => simp [tyD]
  rcases hR with e | e | e | e | e | e | e <;> rw [e] <;> rcases hT with e | e | e | e | e | e <;> rw [e] <;> decide +kernel
@[simp] def mIsi (a : ME) (T : String) : ME := fun env => (a env).bind fun x => (rd x.2 x.1).bind fun r => if noSet r = true ∧ isaOk T = true then some (bD (isaB (tyD r) T), x.2) else none
@[simp] def mIsi2 (a : ME) (T T' : String) : ME := fun env => (a env).bind fun x => (rd x.2 x.1).bind fun r => if noSet r = true ∧ isaOk T = true ∧ isaOk T' = true then some (bD (isaB (tyD r) T || isaB (tyD r) T'), x.2) else none
theorem re_isi {a : ME} {T : String} {Q : VK} (h : tI Z (mIsi a T) σ H Q) : tCB (rIsi Z.K) (tCons (tI Z a) (tCons (tC (.ty T)) tNil)) σ H Q := by
  obtain ⟨B, Hb, env, pv, env', st, e, q⟩ := h
  simp only [mIsi, Option.bind_eq_some_iff] at e
  obtain ⟨⟨x, e1⟩, ha, r, h1, h2⟩ := e
  split at h2
  · rename_i c
    cases h2
    exact ⟨B, Hb, env, x, _, st, ha, fun v Hb1 H1 g1 rv => ⟨v, .ty T, _, _, _, rfl, .ty T, tyX_of g1.st.sub (rv.rd g1.st h1) c.1, kit_ty (kitB_is c.2 c.1), q _ Hb1 H1 g1 (vrB _)⟩⟩
  · cases h2
theorem re_isi2 {a : ME} {T T' : String} {Q : VK} (h : tI Z (mIsi2 a T T') σ H Q) : tCB (rIsiT Z.K) (tCons (tI Z a) (tCons (tTup (tCons (tC (.ty T)) (tCons (tC (.ty T')) tNil))) tNil)) σ H Q := by
  obtain ⟨B, Hb, env, pv, env', st, e, q⟩ := h
  simp only [mIsi2, Option.bind_eq_some_iff] at e
  obtain ⟨⟨x, e1⟩, ha, r, h1, h2⟩ := e
  split at h2
  · rename_i c
    cases h2
    refine ⟨B, Hb, env, x, _, st, ha, fun v Hb1 H1 g1 rv => ?_⟩
    refine ⟨show 2 ≤ sizeLine by decide, fun p hp => ?_⟩
    have n := Nx.new (o := .tup [V.ty T, V.ty T']) g1.st.sub hp
    have g2 := g1.nx n
    have rv2 := rv.keep (fun p hp => own_some st p (g1.ow p hp)) n.to
    have k1 := kit_ty (K := Z.K) (kitB_is c.2.1 c.1)
    have k2 := kit_ty (K := Z.K) (kitB_is c.2.2 c.1)
    refine ⟨v, p, _, _, [.type T, .type T'], _, rfl, upd_same, .cons (.ty T) (.cons (.ty T') .nil), tyX_of g2.st.sub (rv2.rd g2.st h1) c.1, ?_, q _ _ _ g2 (vrB _)⟩
    refine kitAny_cons k1 (fun h => ?_) (fun h => by rw [h]; rfl)
    refine kitAny_cons k2 (fun h' => ?_) (fun h' => by rw [h']; simp)
    rw [h, h']
    exact kitAny_nil
  · cases h2
/-! sorted(set(x)) of texts -/
def strsOf : List D → Option (List Str)
  | [] => some []
  | .str i :: r => (strsOf r).bind fun s => some (i :: s)
  | _ => none
theorem strsOf_eq : ∀ {ds : List D} {ns : List Str}, strsOf ds = some ns → ds = ns.map .str
  | [], _, h => by cases h; rfl
  | .str i :: r, _, h => by
    simp only [strsOf, Option.bind_eq_some_iff] at h
    obtain ⟨s, h1, h2⟩ := h
    cases h2
    rw [strsOf_eq h1]
    rfl
  | .none :: _, _, h => by cases h
  | .bool _ :: _, _, h => by cases h
  | .int _ :: _, _, h => by cases h
  | .list _ :: _, _, h => by cases h
  | .tuple _ :: _, _, h => by cases h
  | .dict _ :: _, _, h => by cases h
def oSorted (r : RV) : Option PV := match r with
  | .d (.list ds) => (strsOf ds).bind fun zs => if zs.length + 1 < scanBound ∧ (dist zs).length < 64 then some (.new (.lst ((sortS (dist zs)).map .str))) else none
  | .d (.tuple ds) => (strsOf ds).bind fun zs => if zs.length + 1 < scanBound ∧ (dist zs).length < 64 then some (.new (.lst ((sortS (dist zs)).map .str))) else none
  | _ => none
def mSortedSet (a : ME) : ME := m1 oSorted a
theorem dist_map {α β : Type} [DecidableEq α] [DecidableEq β] (f : α → β) (hf : ∀ a b, f a = f b → a = b) (ks : List α) : dist (ks.map f) = (dist ks).map f := by
  have add : ∀ (ks : List α) (k : α), added (ks.map f) (f k) = (added ks k).map f := fun ks k => by
    unfold added
    have e : f k ∈ ks.map f ↔ k ∈ ks := by
      rw [List.mem_map]
      exact ⟨fun ⟨a, h1, h2⟩ => hf _ _ h2 ▸ h1, fun h => ⟨k, h, rfl⟩⟩
    by_cases h : k ∈ ks
    · rw [if_pos h, if_pos (e.mpr h)]
    · rw [if_neg h, if_neg (fun z => h (e.mp z))]; simp
  have aux : ∀ (ks acc : List α), (ks.map f).foldl added (acc.map f) = (ks.foldl added acc).map f := by
    intro ks
    induction ks with
    | nil => intro acc; rfl
    | cons k ks ih => intro acc; rw [List.map_cons, List.foldl_cons, List.foldl_cons, add, ih]
  exact aux ks []
theorem re_sortedSet {a : ME} {Q : VK} (h : tI Z (mSortedSet a) σ H Q) : tCB (rSortedQ Z.P Z.w) (tCons (tCB (rSetK Z.K Z.P Z.w) (tCons (tI Z a) tNil)) tNil) σ H Q := by
  obtain ⟨B, Hb, env, pv, env', st, e, q⟩ := h
  simp only [mSortedSet, m1, Option.bind_eq_some_iff] at e
  obtain ⟨⟨x, e1⟩, ha, r, h1, p, h2, h3⟩ := e
  cases h3
  refine ⟨B, Hb, env, x, _, st, ha, fun v Hb1 H1 g1 rv => ?_⟩
  have main : ∀ (a : Addr) (zs : List Str), v = .ref a → (SqL Z.K H1 a (zs.map V.str) ∨ SqT Z.K H1 a (zs.map V.str)) → zs.length + 1 < scanBound ∧ (dist zs).length < 64 → pv = PV.new (Ob.lst ((sortS (dist zs)).map PyData.str)) →
      rSetK Z.K Z.P Z.w [v] H1 fun x H2 => rSortedQ Z.P Z.w [x] H2 Q := by
    intro a zs ev hs hl ep
    subst ev ep
    have ek : zs.map V.str = (zs.map Sum.inr : List Key).map kV := by rw [List.map_map]; rfl
    rw [ek] at hs
    refine ⟨a, zs.map Sum.inr, rfl, hs, by rw [List.length_map]; exact hl.1, .inr fun s hn => ?_⟩
    have n1 := Nx.newOwn (o := SetQ Z.P Z.w s (dist (zs.map Sum.inr))) g1.st.sub hn
    have g2 := g1.nx n1
    refine ⟨s, dist zs, rfl, by rw [upd_same, dist_map Sum.inr (fun _ _ h => Sum.inr.inj h)], hl.2, fun ys t hp hsr ht => ?_⟩
    have n2 := Nx.newOwn (o := .lst (ys.map V.str)) g2.st.sub ht
    have g3 := g2.nx n2
    have ey := sortS_of hp hsr
    subst ey
    exact q _ _ _ g3 (.new (g1.ny.back t (by
      have : t ≠ s := fun z => by rw [z, upd_same] at ht; cases ht
      rw [upd_ne this] at ht
      exact ht)) (g2.st.sub.free ht) (.lst upd_same (DpAll.strs _)))
  have w := rv.rd g1.st h1
  unfold oSorted at h2
  split at h2
  · cases w with
    | lst s t =>
      simp only [Option.bind_eq_some_iff] at h2
      obtain ⟨zs, h3, h4⟩ := h2
      have hd := strsOf_eq h3
      subst hd
      have hv := DpAll.strs_inv t
      subst hv
      split at h4
      · rename_i c; exact main _ zs rfl (.inl s) c (Option.some.inj h4).symm
      · cases h4
  · cases w with
    | tup s t _ =>
      simp only [Option.bind_eq_some_iff] at h2
      obtain ⟨zs, h3, h4⟩ := h2
      have hd := strsOf_eq h3
      subst hd
      have hv := DpAll.strs_inv t
      subst hv
      split at h4
      · rename_i c; exact main _ zs rfl (.inr (sqt_ex g1.st.sub s)) c (Option.some.inj h4).symm
      · cases h4
  · cases h2
end
end Ol
set_option Elab.async false
set_option linter.all false
set_option maxRecDepth 100000
set_option maxHeartbeats 4000000
/-! own: methods, items, what is walked, dict comprehensions -/
namespace Ol
open PySem PySem.Spec PyProof.Rows L2
section
variable {Z : Zn} {Hb H : Hp} {σ : L2.St}
theorem dp1 {K : Fg} {vs : List V} {d : D} (h : DpAll K Hb vs [d]) : ∃ v, vs = [v] ∧ Dp K Hb v d := by
  cases h with
  | cons a t => cases t; exact ⟨_, rfl, a⟩
theorem dp2 {K : Fg} {vs : List V} {d e : D} (h : DpAll K Hb vs [d, e]) : ∃ v w, vs = [v, w] ∧ Dp K Hb v d ∧ Dp K Hb w e := by
  cases h with
  | cons a t => obtain ⟨w, rfl, b⟩ := dp1 t; exact ⟨_, w, rfl, a, b⟩
theorem vrN {H0 : Hp} : VR Z H0 Hb H σ .non (.d .none) := .d .non
@[simp] def fAppend : Ob → List D → Option (PV × Ob)
  | .lst xs, [d] => if xs.length < 100000 then some (.d .none, .lst (xs ++ [d])) else none
  | _, _ => none
theorem m_append : OpM Z rAppend fAppend := by
  intro Hb H p o vs ds pv o' e ow hb hd h Q q
  unfold fAppend at h
  split at h
  · split at h
    · rename_i hl
      cases h
      obtain ⟨v, rfl, r⟩ := dp1 hd
      cases ow with
      | lst a b =>
        have l := DpAll.length b
        exact ⟨p, _, v, rfl, rfl, a, by rw [l]; exact Nat.lt_of_lt_of_le hl (by decide), q _ _ (.lst upd_same (DpAll.append b (.cons r .nil))) vrN⟩
    · cases h
  · cases h
instance {i : Int} : Decidable (-(2 ^ 63) ≤ i ∧ i < 2 ^ 63) := by infer_instance
def fPopAt : Ob → List D → Option (PV × Ob)
  | .lst xs, [.int i] => if -(2 ^ 63) ≤ i ∧ i < 2 ^ 63 then (seqIndex? i xs.length).bind fun k => (xs[k]?).bind fun y => some (.d y, .lst (xs.eraseIdx k)) else none
  | _, _ => none
theorem m_popAt : OpM Z rPopAt fPopAt := by
  intro Hb H p o vs ds pv o' e ow hb hd h Q q
  unfold fPopAt at h
  split at h
  · split at h
    · rename_i hl
      simp only [Option.bind_eq_some_iff] at h
      obtain ⟨k, h1, y, h2, h3⟩ := h
      cases h3
      obtain ⟨v, rfl, r⟩ := dp1 hd
      cases r
      cases ow with
      | lst a b =>
        have l := DpAll.length b
        obtain ⟨u, g1, g2⟩ := DpAll.get b h2
        exact ⟨p, _, _, k, u, rfl, rfl, a, hl.1, hl.2, by rw [l]; exact h1, g1, q _ _ (.lst upd_same (DpAll.eraseIdx k b)) (.d g2)⟩
    · cases h
  · cases h
def fPop : Ob → List D → Option (PV × Ob)
  | .lst xs, [] => (xs[xs.length - 1]?).bind fun y => some (.d y, .lst xs.dropLast)
  | _, _ => none
theorem m_pop : OpM Z rPop fPop := by
  intro Hb H p o vs ds pv o' e ow hb hd h Q q
  unfold fPop at h
  split at h
  · simp only [Option.bind_eq_some_iff] at h
    obtain ⟨y, h2, h3⟩ := h
    cases h3
    cases hd
    cases ow with
    | lst a b =>
      have l := DpAll.length b
      obtain ⟨u, g1, g2⟩ := DpAll.get b h2
      exact ⟨p, _, u, rfl, rfl, a, by rw [l]; exact g1, q _ _ (.lst upd_same (DpAll.dropLast b)) (.d g2)⟩
  · cases h
def fClear : Ob → List D → Option (PV × Ob)
  | .lst _, [] => some (.d .none, .lst [])
  | _, _ => none
theorem m_clear : OpM Z rClear fClear := by
  intro Hb H p o vs ds pv o' e ow hb hd h Q q
  unfold fClear at h
  split at h
  · cases h
    cases hd
    cases ow with
    | lst a b => exact ⟨p, _, rfl, rfl, a, q _ _ (.lst upd_same .nil) vrN⟩
  · cases h
def fAdd : Ob → List D → Option (PV × Ob)
  | .set ks, [d] => (keyOf d).bind fun k => if (dist ks).length + 1 < scanBound then some (.d .none, .set (ks ++ [k])) else none
  | _, _ => none
theorem m_add : OpM Z (rSAddK Z.P Z.w) fAdd := by
  intro Hb H p o vs ds pv o' e ow hb hd h Q q
  cases ow with
  | lst _ _ => cases h
  | dic _ _ _ => cases h
  | dit _ _ => cases h
  | @set ks a =>
    cases hd with
    | nil => cases h
    | cons r t =>
      cases t with
      | cons _ _ => cases h
      | nil =>
        simp only [fAdd, Option.bind_eq_some_iff] at h
        obtain ⟨k, h1, h2⟩ := h
        split at h2
        · rename_i hl
          cases h2
          refine ⟨p, k, _, _, rfl, by rw [keyOf_v r h1], a, hl, q _ _ (.set ?_) vrN⟩
          rw [upd_same]
          have e1 : (fun j => memb ks j || decide (j = k)) = memb (ks ++ [k]) := funext fun j => by
            rw [Bool.eq_iff_iff]
            simp [memb]
          have e2 : (if memb ks k = true then (dist ks).length else (dist ks).length + 1) = (dist (ks ++ [k])).length := by
            rw [dist_snoc]
            unfold added memb
            by_cases z : k ∈ ks
            · simp [z, mem_dist]
            · simp [z, mem_dist]
          rw [e1, e2]
        · cases h2
def fSetL : Ob → D → D → Option Ob
  | .lst xs, .int k, d => (ixN xs.length k).bind fun j => some (.lst (xs.set j d))
  | _, _, _ => none
theorem t_setL : OpS Z rSetL fSetL := by
  intro Hb H p o k x dk d o' e ow hb hk hx h Q q
  unfold fSetL at h
  split at h
  · simp only [Option.bind_eq_some_iff] at h
    obtain ⟨j, h1, h2⟩ := h
    cases h2
    cases hk
    cases ow with
    | lst a b =>
      have l := DpAll.length b
      exact ⟨p, _, _, j, rfl, rfl, a, by rw [l]; exact h1, q _ (.lst upd_same (DpAll.set hx j b))⟩
  · cases h
/-! what is walked -/
@[simp] def mIter (a : ME) : MI := fun env => (a env).bind fun x => match x.1 with
  | .d (.list ds) => some (ds, x.2)
  | .new (.lst ds) => some (ds, x.2)
  | .d (.tuple ds) => some (ds, x.2)
  | .d (.str z) => some (z.cps.toList.map fun c => .str ⟨#[c]⟩, x.2)
  | _ => none
def iU (K : Fg) (te : TE) : TI := fun σ H R => iList K te σ H R ∨ iTup K te σ H R ∨ iStr te σ H R
theorem pi_U {X : Cx} {tg e : Expr} {te : TE} (h : PE X e te) : PI X tg e (iU X.K te) := PI.or (pi_list h) (PI.or (pi_tup h) (pi_str h))
theorem itr_list {a : Addr} {xs : List V} {ds : List D} (s : SqL Z.K Hb a xs) (t : DpAll Z.K Hb xs ds) : ItR Z (Itl Z.K a) ds Hb := by
  refine ⟨fun H => SqL Z.K H a xs, YAt xs, ?_, fun H e => sql_ex e s, fun i Hb1 H x H' hi e1 e2 y => ?_⟩
  · rw [← DpAll.length t]; exact walk_list
  · obtain ⟨rfl, hx⟩ := y
    have hd := List.getElem?_eq_getElem hi
    obtain ⟨v, h1, h2⟩ := DpAll.get t hd
    rw [hx] at h1
    cases h1
    exact ⟨Hb1, _, .refl e2, hd, Dp.ex e1 h2⟩
theorem itr_tup {a : Addr} {xs : List V} {ds : List D} (s : SqT Z.K Hb a xs) (t : DpAll Z.K Hb xs ds) : ItR Z (Itt Z.K a) ds Hb := by
  refine ⟨fun H => SqT Z.K H a xs, YAt xs, ?_, fun H e => sqt_ex e s, fun i Hb1 H x H' hi e1 e2 y => ?_⟩
  · rw [← DpAll.length t]; exact walk_tup
  · obtain ⟨rfl, hx⟩ := y
    have hd := List.getElem?_eq_getElem hi
    obtain ⟨v, h1, h2⟩ := DpAll.get t hd
    rw [hx] at h1
    cases h1
    exact ⟨Hb1, _, .refl e2, hd, Dp.ex e1 h2⟩
theorem itr_str {z : Str} : ItR Z (Its z) (z.cps.toList.map fun c => .str ⟨#[c]⟩) Hb := by
  refine ⟨fun _ => True, (fun i H v H' => H' = H ∧ ∃ c, z.cps[i]? = some c ∧ v = .str ⟨#[c]⟩), ?_, fun H e => trivial, fun i Hb1 H x H' hi e1 e2 y => ?_⟩
  · rw [List.length_map, Array.length_toList]; exact walk_str
  · obtain ⟨rfl, c, hx, rfl⟩ := y
    exact ⟨Hb1, _, .refl e2, by rw [List.getElem?_map, Array.getElem?_toList, hx]; rfl, .str _⟩
theorem ri_iter {a : ME} {R : It → Hp → Prop} (h : tII Z (mIter a) σ H R) : iU Z.K (tI Z a) σ H R := by
  obtain ⟨B, Hb, env, ds, env', st, e, q⟩ := h
  simp only [mIter, Option.bind_eq_some_iff] at e
  obtain ⟨⟨x, e1⟩, ha, e⟩ := e
  have go : ∀ (T : V → Hp → Prop), (∀ v Hb1 H1, Go Z B σ env Hb H e1 Hb1 H1 → VR Z H Hb1 H1 σ v x → T v H1) → tI Z a σ H T := fun T hT => ⟨B, Hb, env, x, e1, st, ha, hT⟩
  split at e
  · rename_i x1 ds1 hx
    have hx' : x = _ := hx
    subst hx'
    cases e
    refine .inl (go _ fun v Hb1 H1 g1 rv => ?_)
    cases rv with
    | d w => cases w with
      | lst s t => exact ⟨_, rfl, ⟨_, sql_ex g1.st.sub s⟩, q _ Hb1 H1 g1 (itr_list s t)⟩
  · rename_i x1 ds1 hx
    have hx' : x = _ := hx
    subst hx'
    cases e
    refine .inl (go _ fun v Hb1 H1 g1 rv => ?_)
    obtain ⟨Hb2, g2, hd⟩ := fz_known st g1 rv rfl
    cases hd with
    | lst s t => exact ⟨_, rfl, ⟨_, sql_ex g2.st.sub s⟩, q _ Hb2 H1 g2 (itr_list s t)⟩
  · rename_i x1 ds1 hx
    have hx' : x = _ := hx
    subst hx'
    cases e
    refine .inr (.inl (go _ fun v Hb1 H1 g1 rv => ?_))
    cases rv with
    | d w => cases w with
      | tup s t _ => exact ⟨_, rfl, ⟨_, sqt_ex g1.st.sub s⟩, q _ Hb1 H1 g1 (itr_tup s t)⟩
  · rename_i x1 ds1 hx
    have hx' : x = _ := hx
    subst hx'
    cases e
    refine .inr (.inr (go _ fun v Hb1 H1 g1 rv => ?_))
    cases rv with
    | d w => cases w with
      | str z => exact ⟨_, rfl, q _ Hb1 H1 g1 itr_str⟩
  · cases e
def rangeD (lo : Int) (n : Nat) : List D := (List.range n).map fun (i : Nat) => .int (lo + (i : Int))
theorem itr_range {lo : Int} {n : Nat} : ItR Z (Itr lo n) (rangeD lo n) Hb := by
  refine ⟨fun _ => True, YFn (fun i => .int (lo + i)), ?_, fun H e => trivial, fun i Hb1 H x H' hi e1 e2 y => ?_⟩
  · unfold rangeD; rw [List.length_map, List.length_range]; exact walk_range
  · obtain ⟨rfl, rfl⟩ := y
    have hi' : i < n := by simpa [rangeD] using hi
    exact ⟨Hb1, .int (lo + (i : Nat)), .refl e2, by simp [rangeD, hi'], .int _⟩
@[simp] def mRange1 (a : MA) : MI := fun env => (a env).bind fun xs => match xs.1 with
  | [.d (.int j)] => if -(2 ^ 62) ≤ j ∧ j < 2 ^ 62 then some (rangeD 0 j.toNat, xs.2) else none
  | _ => none
@[simp] def mRange2 (a : MA) : MI := fun env => (a env).bind fun xs => match xs.1 with
  | [.d (.int i), .d (.int j)] => if (-(2 ^ 62) ≤ i ∧ i < 2 ^ 62) ∧ -(2 ^ 62) ≤ j ∧ j < 2 ^ 62 then some (rangeD i (j - i).toNat, xs.2) else none
  | _ => none
theorem vr_int {B : Bs} {H0 : Hp} {i : Int} {v : V} (h : VR Z H0 Hb H σ v (.d (.int i))) : v = .int i := by
  cases h with
  | d a => cases a; rfl
theorem ri_range1 {a : MA} {R : It → Hp → Prop} (h : tII Z (mRange1 a) σ H R) : iRng1 (tIA Z a) σ H R := by
  obtain ⟨B, Hb, env, ds, env', st, e, q⟩ := h
  simp only [mRange1, Option.bind_eq_some_iff] at e
  obtain ⟨⟨xs, e1⟩, ha, e⟩ := e
  refine ⟨B, Hb, env, xs, e1, st, ha, fun vs ps Hb1 H1 g1 rv => ?_⟩
  split at e
  · rename_i x1 j hx
    have hx' : xs = _ := hx
    subst hx'
    split at e
    · rename_i c
      cases e
      cases rv with
      | d a t =>
        cases t
        cases a
        exact ⟨j, rfl, c.1, c.2, q _ Hb1 H1 g1 itr_range⟩
    · cases e
  · cases e
theorem ri_range2 {a : MA} {R : It → Hp → Prop} (h : tII Z (mRange2 a) σ H R) : iRng2 (tIA Z a) σ H R := by
  obtain ⟨B, Hb, env, ds, env', st, e, q⟩ := h
  simp only [mRange2, Option.bind_eq_some_iff] at e
  obtain ⟨⟨xs, e1⟩, ha, e⟩ := e
  refine ⟨B, Hb, env, xs, e1, st, ha, fun vs ps Hb1 H1 g1 rv => ?_⟩
  split at e
  · rename_i x1 i j hx
    have hx' : xs = _ := hx
    subst hx'
    split at e
    · rename_i c
      cases e
      cases rv with
      | d a t =>
        cases a
        cases t with
        | d a t =>
          cases a
          cases t
          exact ⟨i, j, rfl, ⟨c.1.1, c.1.2, c.2.1, c.2.2⟩, q _ Hb1 H1 g1 itr_range⟩
    · cases e
  · cases e
/-- enumerate -/
def enumD : Nat → List D → List D
  | _, [] => []
  | i, d :: r => .tuple [.int (i : Nat), d] :: enumD (i + 1) r
theorem enumD_len : ∀ {ds : List D} {n : Nat}, (enumD n ds).length = ds.length
  | [], _ => rfl
  | _ :: r, n => congrArg Nat.succ (enumD_len (ds := r))
theorem enumD_get : ∀ {ds : List D} {n i : Nat} {d : D}, ds[i]? = some d → (enumD n ds)[i]? = some (.tuple [.int ((n + i : Nat) : Int), d])
  | [], _, _, _, h => by simp at h
  | x :: r, n, 0, d, h => by simp at h; subst h; rfl
  | x :: r, n, i + 1, d, h => by
    have z := enumD_get (ds := r) (n := n + 1) (i := i) (d := d) (by simpa using h)
    rw [show n + 1 + i = n + (i + 1) by omega] at z
    simpa [enumD] using z
@[simp] def mEnum (a : MA) : MI := fun env => (a env).bind fun xs => match xs.1 with
  | [.d (.list ds)] => some (enumD 0 ds, xs.2)
  | [.new (.lst ds)] => some (enumD 0 ds, xs.2)
  | [.d (.tuple ds)] => some (enumD 0 ds, xs.2)
  | _ => none
def iEnumU (K : Fg) (ta : TA) : TI := fun σ H R => iEnum K ta σ H R ∨ iEnumT K ta σ H R
theorem itr_pair {J : It} {xs : List V} {ds : List D} {G : Hp → Prop} (w : Walk J xs.length G (YPair (fun i => some (.int (i : Nat))) (fun i => xs[i]?))) (hG : ∀ H, Ex Hb H → G H) (t : DpAll Z.K Hb xs ds) : ItR Z J (enumD 0 ds) Hb := by
  refine ⟨G, YPair (fun i => some (.int (i : Nat))) (fun i => xs[i]?), ?_, hG, fun i Hb1 H x H' hi e1 e2 y => ?_⟩
  · rw [enumD_len, ← DpAll.length t]; exact w
  · obtain ⟨T, u, v, rfl, hT, rfl, hu, hv⟩ := y
    rw [enumD_len] at hi
    have hd := List.getElem?_eq_getElem hi
    obtain ⟨v', h1, h2⟩ := DpAll.get t hd
    have hv' : xs[i]? = some v := hv
    rw [hv'] at h1
    cases h1
    cases hu
    have z := enumD_get (n := 0) hd
    rw [Nat.zero_add] at z
    exact ⟨upd Hb1 T _, _, Nx.new e2 hT, z, .tup (.inl (.of upd_same)) (.cons (.int _) (.cons (Dp.ex (e1.trans (Ex.new (e2.free hT))) h2) .nil)) fun z => by simp [isS] at z⟩
theorem ri_enum {a : MA} {R : It → Hp → Prop} (h : tII Z (mEnum a) σ H R) : iEnumU Z.K (tIA Z a) σ H R := by
  obtain ⟨B, Hb, env, ds, env', st, e, q⟩ := h
  simp only [mEnum, Option.bind_eq_some_iff] at e
  obtain ⟨⟨xs, e1⟩, ha, e⟩ := e
  have go : ∀ (T : List V → Hp → Prop), (∀ vs ps Hb1 H1, Go Z B σ env Hb H e1 Hb1 H1 → VRs Z H Hb1 H1 σ vs xs ps → T vs H1) → tIA Z a σ H T := fun T hT => ⟨B, Hb, env, xs, e1, st, ha, hT⟩
  split at e
  · rename_i x1 ds1 hx
    have hx' : xs = _ := hx
    subst hx'
    cases e
    refine .inl (go _ fun vs ps Hb1 H1 g1 rv => ?_)
    cases rv with
    | d w t => cases t; cases w with
      | lst s t => exact ⟨_, _, rfl, sql_ex g1.st.sub s, q _ Hb1 H1 g1 (itr_pair walk_enum (fun H e => sql_ex e s) t)⟩
  · rename_i x1 ds1 hx
    have hx' : xs = _ := hx
    subst hx'
    cases e
    refine .inl (go _ fun vs ps Hb1 H1 g1 rv => ?_)
    obtain ⟨Hb2, g2, hd⟩ := g1.kn (ds := [.list ds1]) st rv rfl
    obtain ⟨v, rfl, hd2⟩ := dp1 hd
    cases hd2 with
    | lst s t => exact ⟨_, _, rfl, sql_ex g2.st.sub s, q _ Hb2 H1 g2 (itr_pair walk_enum (fun H e => sql_ex e s) t)⟩
  · rename_i x1 ds1 hx
    have hx' : xs = _ := hx
    subst hx'
    cases e
    refine .inr (go _ fun vs ps Hb1 H1 g1 rv => ?_)
    cases rv with
    | d w t => cases t; cases w with
      | tup s t _ => exact ⟨_, _, rfl, sqt_ex g1.st.sub s, q _ Hb1 H1 g1 (itr_pair walk_enumT (fun H e => sqt_ex e s) t)⟩
  · cases e
/-! {k: v for tg in it if c} -/
def putD (kvs : List (Key × D)) (k : Key) (v : D) : List (Key × D) :=
  if (kvs.any fun kv => decide (kv.1 = k)) = true then kvs.map (fun kv => if kv.1 = k then (kv.1, v) else kv) else kvs ++ [(k, v)]
def compDL (own : List Nat) (g : MG) (c : MT) (ek ev : ME) : List D → Env → List (Key × D) → Option (List (Key × D) × Env)
  | [], e, acc => some (acc, e)
  | x :: r, e, acc => (g (.d x) e).bind fun e1 => (c e1).bind fun b => if b.1 = true then (ek b.2).bind fun y => (fz y.1).bind fun kd => (keyOf kd).bind fun k => (ev y.2).bind fun z => (fz z.1).bind fun d =>
      if acc.length < 100000 then compDL own g c ek ev r (wipeE z.2 own) (putD acc k d) else none else compDL own g c ek ev r (wipeE b.2 own) acc
def mDComp (own : List Nat) (g : MG) (it : MI) (c : MT) (ek ev : ME) : ME := fun env => (it env).bind fun x => (compDL own g c ek ev x.1 (wipeE x.2 own) []).bind fun z => some (.new (.dic z.1), restE x.2 z.2 own)
theorem putK_map {us : List (Key × V)} {kvs : List (Key × D)} {k : Key} {v : V} {d : D} {K : Fg} (h1 : us.map (·.1) = kvs.map (·.1)) (h2 : DpAll K Hb (us.map (·.2)) (kvs.map (·.2))) (h3 : Dp K Hb v d) :
    (putK us k v).map (·.1) = (putD kvs k d).map (·.1) ∧ DpAll K Hb ((putK us k v).map (·.2)) ((putD kvs k d).map (·.2)) := by
  have hany : ∀ {us : List (Key × V)} {kvs : List (Key × D)}, us.map (·.1) = kvs.map (·.1) → (us.any fun kv => decide (kv.1 = k)) = kvs.any fun kv => decide (kv.1 = k) := by
    intro us
    induction us with
    | nil => intro kvs h; cases kvs with
      | nil => rfl
      | cons _ _ => cases h
    | cons u us ih => intro kvs h; cases kvs with
      | nil => cases h
      | cons w kvs => simp only [List.map_cons, List.cons.injEq] at h; rw [List.any_cons, List.any_cons, h.1, ih h.2]
  unfold putK putD
  rw [hany h1]
  by_cases c : (kvs.any fun kv => decide (kv.1 = k)) = true
  · rw [if_pos c, if_pos c]
    clear c hany
    induction us generalizing kvs with
    | nil => cases kvs with
      | nil => exact ⟨rfl, .nil⟩
      | cons _ _ => cases h1
    | cons u us ih => cases kvs with
      | nil => cases h1
      | cons w kvs =>
        simp only [List.map_cons, List.cons.injEq] at h1
        cases h2 with
        | cons a b =>
          obtain ⟨i1, i2⟩ := ih h1.2 b
          simp only [List.map_cons]
          rw [i1, h1.1]
          by_cases z : w.1 = k
          · rw [if_pos z, if_pos z]; exact ⟨rfl, .cons h3 i2⟩
          · rw [if_neg z, if_neg z]; exact ⟨by rw [h1.1], .cons a i2⟩
  · rw [if_neg c, if_neg c, List.map_append, List.map_append, List.map_append, List.map_append, h1]
    exact ⟨rfl, DpAll.append h2 (.cons h3 .nil)⟩
end
end Ol
set_option Elab.async false
set_option linter.all false
set_option maxRecDepth 100000
set_option maxHeartbeats 4000000
/-! own: dict comprehensions -/
namespace Ol
open PySem PySem.Spec PyProof.Rows L2
section
variable {Z : Zn} {H : Hp} {σ : L2.St}
theorem dc_it {J : It} {n : Nat} {G : Hp → Prop} {Y : Nat → Hp → V → Hp → Prop} (w : Walk J n G Y) {g : TG} {tt : TT} {tk tv : TE} {vs : List Nat} {σ : L2.St} {H1 : Hp} {D : Addr} {Qd : Hp → Prop} (Pv : Nat → Hp → Prop) (h0 : Pv 0 (upd H1 D (.dK []))) (hG : ∀ i H, i ≤ n → Pv i H → G H)
    (hs : ∀ i x H H', i < n → Pv i H → Y i H x H' → g x (wipe σ vs) H' fun σ2 H2 => wipe σ2 vs = wipe σ vs ∧ tt σ2 H2 fun b H3 =>
      if b = true then tk σ2 H3 fun y H4 => tv σ2 H4 fun z H5 => ∃ kvs k, y = kV k ∧ H5 D = some (.dK kvs) ∧ kvs.length < sizeLine ∧ Pv (i + 1) (upd H5 D (.dK (putK kvs k z))) else Pv (i + 1) H3) (hd : ∀ H, Pv n H → Qd H) :
    ∃ W : Nat → Nat → Hp → Prop, (∃ m, W 0 m (upd H1 D (.dK []))) ∧ ∀ i m H, W i m H →
      (J.stop i H ∧ Qd H) ∨ (J.go i H ∧ ∃ Nx : Hp → Prop, (∀ H', Nx H' → ∃ m', m' < m ∧ W (i + 1) m' H') ∧ ∀ x H', J.yld i H x H' → g x (wipe σ vs) H' fun σ2 H2 => wipe σ2 vs = wipe σ vs ∧ tt σ2 H2 fun b H3 =>
        if b = true then tk σ2 H3 fun y H4 => tv σ2 H4 fun z H5 => ∃ kvs k, y = kV k ∧ H5 D = some (.dK kvs) ∧ kvs.length < sizeLine ∧ Nx (upd H5 D (.dK (putK kvs k z))) else Nx H3) := by
  refine ⟨fun i m H => m = n - i ∧ i ≤ n ∧ Pv i H, ⟨n, by simp, Nat.zero_le _, h0⟩, ?_⟩
  rintro i m H ⟨rfl, hi, p⟩
  have q := hG i H hi p
  by_cases hlt : i < n
  · exact .inr ⟨w.goes i H hlt q, Pv (i + 1), fun H' p' => ⟨n - (i + 1), by omega, rfl, hlt, p'⟩, fun x H' y => hs i x H H' hlt p (w.yields i H x H' hlt q y)⟩
  · have e : i = n := by omega
    subst e
    exact .inl ⟨w.stops H q, hd H p⟩
theorem fz_knownD {B : Bs} {Hb Hb1 H1 : Hp} {env env1 : Env} {v : V} {x : PV} {d : D} {DD : Addr} (st : Sta Z B Hb H σ env) (g : Go Z B σ env Hb H env1 Hb1 H1) (rv : VR Z H Hb1 H1 σ v x) (f : fz x = some d) (hD : H DD ≠ none) (hn : Hb1 DD = none) :
    ∃ Hb2, Go Z B σ env Hb H env1 Hb2 H1 ∧ Hb2 DD = none ∧ Dp Z.K Hb2 v d := by
  cases rv with
  | d a => cases f; exact ⟨Hb1, g, hn, a⟩
  | new a b1 c =>
    rename_i p o
    cases c with
    | lst y1 y2 =>
      cases f
      refine ⟨_, g.know st ⟨Ex.new b1, upd_ex g.st.sub y1, fun y w1 w2 => ?_⟩, ?_, .lst (.inl (.of upd_same)) (DpAll.ex (Ex.new b1) y2)⟩
      · rw [upd_ne (fun w => w1 (by rw [w]; exact a))]
        exact w2
      · rw [upd_ne (fun w => hD (by rw [w]; exact a))]
        exact hn
    | set _ => cases f
    | dic _ _ _ => cases f
    | dit _ _ => cases f
  | slot a => cases f
  | tup a t => cases f
theorem re_dcomp {own : List Nat} {g : MG} {is : List Nat} {it : MI} {c : MT} {ek ev : ME} {Q : VK} (hi : ∀ i ∈ is, i ∈ own) (h : tI Z (mDComp own g it c ek ev) σ H Q) : tDc (tII Z it) (tG Z is g) (tIT Z c) (tI Z ek) (tI Z ev) own σ H Q := by
  obtain ⟨B, Hb, env, pv, env', st, e, q⟩ := h
  simp only [mDComp, Option.bind_eq_some_iff] at e
  obtain ⟨⟨ds, e1⟩, ha, ⟨res, ez⟩, h2, h3⟩ := e
  cases h3
  refine ⟨B, Hb, env, ds, e1, st, ha, fun J Hk H1 g1 w => ?_⟩
  intro D hD
  obtain ⟨G, Y, wk, hG, hY⟩ := w
  have stW := g1.st.wipe own
  have hDb : Hk D = none := g1.st.sub.free hD
  have hD0 : B.H0 D = none := g1.st.h0 D hD
  have nOw : ¬ Ow (wipeE e1 own) (L2.wipe σ own) D := fun z => own_some stW D z hD
  refine dc_it wk (fun i H => ∃ Hb env acc xs, Go Z B (L2.wipe σ own) (wipeE e1 own) Hk H1 env Hb H ∧ H D = some (.dK xs) ∧ Hb D = none ∧ (xs.map (·.1) = acc.map (·.1) ∧ DpAll Z.K Hb (xs.map (·.2)) (acc.map (·.2))) ∧ compDL own g c ek ev (ds.drop i) env acc = some (res, ez))
    ⟨Hk, wipeE e1 own, [], [], ⟨(Ny.refl g1.st.sub).upd hD hDb, stW.updN hD0 hDb nOw, fun _ z => z⟩, upd_same, hDb, ⟨rfl, .nil⟩, by simpa using h2⟩
    (fun i H hi ⟨Hb, env, acc, xs, s, _⟩ => hG H (s.ny.kb.trans s.st.sub)) (fun i x H2 H3 hlt ⟨Hb2, env2, acc, xs, s2, c1, c2, c3, hf⟩ y => ?_) (fun H2 ⟨Hb2, env2, acc, xs, s2, c1, c2, c3, hf⟩ => ?_)
  · obtain ⟨Hb3, d, n, hd, hx⟩ := hY i Hb2 H2 x H3 hlt s2.ny.kb s2.st.sub y
    rw [drop_cons hlt] at hf
    have ed : ds[i] = d := by
      have z := List.getElem?_eq_getElem hlt
      rw [hd] at z
      exact (Option.some.inj z).symm
    rw [ed] at hf
    simp only [compDL, Option.bind_eq_some_iff] at hf
    obtain ⟨e3, h3, ⟨b, e4⟩, h4, h5⟩ := hf
    have s3 := s2.nx n
    have d3 : H3 D = some (.dK xs) := n.kh D _ id c1
    have nb3 : Hb3 D = none := n.fr D (by rw [c1]; simp) c2
    have nOw2 : ∀ p, Ow env2 (L2.wipe σ own) p → p ≠ D := fun p hp z => nOw (z ▸ s2.ow p hp)
    refine ⟨B, Hb3, H3, env2, .d d, e3, s3.st, own_some s3.st, s3.st.h0, .d hx, h3, fun σ' s4 hwp how => ?_⟩
    have hw := hwp own hi
    rw [wipe_wipe] at hw
    refine ⟨hw, B, Hb3, e3, b, e4, s4, h4, fun Hb5 H5 g5 => ?_⟩
    have ow4 : ∀ p, Ow e3 σ' p → p ≠ D := fun p hp z => by
      rcases how p hp with w | w
      · exact nOw2 p w z
      · rw [z, d3] at w; cases w
    have d5 : H5 D = some (.dK xs) := g5.ny.kh D _ (fun z => ow4 D z rfl) d3
    have nb5 : Hb5 D = none := g5.ny.fr D (by rw [d3]; simp) nb3
    have close : ∀ {Hb6 H6 : Hp} {e6 : Env}, Go Z B σ' e3 Hb3 H3 e6 Hb6 H6 → Go Z B (L2.wipe σ own) (wipeE e1 own) Hk H1 (wipeE e6 own) Hb6 H6 := fun {Hb6 H6 e6} g6 => by
      have k : ∀ p, Ow (wipeE e6 own) (L2.wipe σ own) p → Ow env2 (L2.wipe σ own) p := fun p ⟨j, bb, oo, z1, z2⟩ => by
        obtain ⟨z3, z4⟩ := wipeE_some z1
        have z5 : σ'[j]? = some (some (.ref p)) := by
          rw [wipe_out z4] at z2
          have z6 : (L2.wipe σ' own)[j]? = (L2.wipe σ own)[j]? := by rw [hw]
          rw [wipe_out z4, wipe_out z4] at z6
          rw [z6]
          exact z2
        have z7 := g6.ow p ⟨j, bb, oo, z3, z5⟩
        rcases how p z7 with w | w
        · exact w
        · exact absurd w (own_some s4 p z7)
      refine ⟨?_, ?_, fun p hp => s3.ow p (k p hp)⟩
      · have t : Ny (Ow (wipeE e1 own) (L2.wipe σ own)) Hb3 H3 Hb6 H6 := g6.ny.mono fun p hp => by
          rcases how p hp with w | w
          · exact s3.ow p w
          · exact absurd w (own_some s4 p hp)
        exact s3.ny.trans t
      · have z := g6.st.wipe own
        rw [hw] at z
        exact z
    cases b with
    | false =>
      simp only [Bool.false_eq_true, if_false] at h5 ⊢
      exact ⟨Hb5, _, acc, xs, close g5, d5, nb5, ⟨c3.1, DpAll.ex (n.kb.trans g5.ny.kb) c3.2⟩, h5⟩
    | true =>
      simp only [if_true, Option.bind_eq_some_iff] at h5 ⊢
      obtain ⟨⟨y0, e5⟩, h6, kd, h7, k, h8, ⟨z0, e6⟩, h9, d', h10, h11⟩ := h5
      refine ⟨B, Hb5, e4, y0, e5, g5.st, h6, fun v Hb6 H6 g6 rv => ?_⟩
      have ow5 : ∀ p, Ow e4 σ' p → p ≠ D := fun p hp => ow4 p (g5.ow p hp)
      have d6 : H6 D = some (.dK xs) := g6.ny.kh D _ (fun z => ow5 D z rfl) d5
      have nb6 : Hb6 D = none := g6.ny.fr D (by rw [d5]; simp) nb5
      obtain ⟨Hb7, g7, nb7, dk⟩ := fz_knownD (DD := D) g5.st g6 rv h7 (by rw [d5]; simp) nb6
      have ow6 : ∀ p, Ow e5 σ' p → p ≠ D := fun p hp => ow5 p (g6.ow p hp)
      refine ⟨B, Hb7, e5, z0, e6, g7.st, h9, fun z Hb8 H8 g8 rz => ?_⟩
      have d8 : H8 D = some (.dK xs) := g8.ny.kh D _ (fun z => ow6 D z rfl) d6
      have nb8 : Hb8 D = none := g8.ny.fr D (by rw [d6]; simp) nb7
      obtain ⟨Hb9, g9, nb9, dv⟩ := fz_knownD (DD := D) g7.st g8 rz h10 (by rw [d6]; simp) nb8
      split at h11
      · rename_i hz
        have hxs : xs.length = acc.length := by
          have z := congrArg List.length c3.1
          simpa using z
        refine ⟨xs, k, keyOf_v dk h8, d8, Nat.lt_of_lt_of_le (by rw [hxs]; exact hz) (by decide), ?_⟩
        have gg := (g5.trans g7).trans g9
        have gc := close gg
        have c4 := putK_map (k := k) c3.1 (DpAll.ex (n.kb.trans gg.ny.kb) c3.2) dv
        exact ⟨Hb9, _, putD acc k d', putK xs k z, ⟨gc.ny.upd hD nb9, gc.st.updN hD0 nb9 fun z => nOw (gc.ow D z), gc.ow⟩, upd_same, nb9, c4, h11⟩
      · cases h11
  · rw [List.drop_eq_nil_of_le (Nat.le_refl _)] at hf
    cases hf
    exact q (.ref D) Hb2 H2 (g1.trans (s2.rest g1.st)) (.new (g1.ny.back D hD) c2 (.dic c1 c3.1 c3.2))
end
end Ol
set_option Elab.async false
set_option linter.all false
set_option maxRecDepth 100000
set_option maxHeartbeats 4000000
/-! own: the rules, one for each form of the text -/
namespace Ol
open PySem PySem.Spec PyProof.Rows L2
theorem tI_mono {Z : Zn} {m : ME} {σ : L2.St} {H : Hp} {Q Q' : VK} (h : tI Z m σ H Q) (w : ∀ v H', Q v H' → Q' v H') : tI Z m σ H Q' := by
  obtain ⟨B, Hb, env, pv, env', st, e, q⟩ := h
  exact ⟨B, Hb, env, pv, env', st, e, fun v Hb' H' g r => w v H' (q v Hb' H' g r)⟩
theorem tIA_mono {Z : Zn} {m : MA} {σ : L2.St} {H : Hp} {Q Q' : List V → Hp → Prop} (h : tIA Z m σ H Q) (w : ∀ v H', Q v H' → Q' v H') : tIA Z m σ H Q' := by
  obtain ⟨B, Hb, env, pv, env', st, e, q⟩ := h
  exact ⟨B, Hb, env, pv, env', st, e, fun v ps Hb' H' g r => w v H' (q v ps Hb' H' g r)⟩
/-- the builtins' names stand as they are -/
structure Gb (mg : Str → Option Value) : Prop where
  len : mg "len" = none
  int : mg "int" = none
  abs : mg "abs" = none
  max : mg "max" = none
  min : mg "min" = none
  list : mg "list" = none
  tuple : mg "tuple" = none
  set : mg "set" = none
  all : mg "all" = none
  any : mg "any" = none
  sum : mg "sum" = none
  sorted : mg "sorted" = none
  isi : mg "isinstance" = none
  range : mg "range" = none
  enumerate : mg "enumerate" = none
  zip : mg "zip" = none
  str : mg "str" = none
  bool : mg "bool" = none
  dict : mg "dict" = none
  repr : mg "repr" = none
/-- a function of the module: its name stands for it, and it keeps its promise -/
structure Fok (Z : Zn) (mg : Str → Option Value) (base : Heap) (k : Nat) (x : Str) (F : Fn) : Prop where
  ex : ∃ (f : Addr) (fd : FuncData) (ps : List Str), FnOk Z.P Z.w Z.K mg base L2.CX0 k f fd ps (spI Z F) ∧ mg x = some (.ref f) ∧ PySem.W.keepIn Z.K (.ref f) = true ∧ Binds Z.K fd ps []
section
variable {X : Cx} {a b c : Expr} {es rest : List Expr} {x : Str} {pos p p1 p2 px py apos cpos : Pos} {i j k : Nat} {ma mb mc : ME} {mt mu : MT} {mas : MA} {j1 : Nat}
theorem iE_var (hN : X.N[i]? = some x) (hv : Vis X.env.scope x) (hd : (x == ("__debug__" : Str)) = false := by decide) (hcd : (x == ("__classdict__" : Str)) = false := by decide) : PE X (.Name x pos) (tI (zn X) (mVar i)) := pe_mono (pe_var hN hv hd hcd) fun σ H Q => re_var
theorem iE_int {i : Int} {j} : PE X (.Constant (.int i) j pos) (tI (zn X) (mC (.int i))) := pe_mono pe_int fun σ H Q => re_c fun Hb => .int i
theorem iE_str {z : Str} {j} : PE X (.Constant (.str z) j pos) (tI (zn X) (mC (.str z))) := pe_mono pe_str fun σ H Q => re_c fun Hb => .str z
theorem iE_bl {z : Bool} {j} : PE X (.Constant (.bool z) j pos) (tI (zn X) (mC (.bool z))) := pe_mono pe_bl fun σ H Q => re_c fun Hb => .bl z
theorem iE_non {j} : PE X (.Constant .none j pos) (tI (zn X) (mC .none)) := pe_mono pe_non fun σ H Q => re_c fun Hb => .non
theorem iE_gs {z : Str} (hg : Gl X x) (hm : ∃ t, X.mg x = some (.str z t)) (hd : (x == ("__debug__" : Str)) = false := by decide) : PE X (.Name x pos) (tI (zn X) (mC (.str z))) := by
  obtain ⟨t, hm⟩ := hm
  exact pe_mono (pe_glob (v := .str z) hg hm ⟨t, rfl⟩ hd) fun σ H Q => re_c fun Hb => .str z
theorem iE_gi {z : Int} (hg : Gl X x) (hm : ∃ t, X.mg x = some (.int z t)) (hd : (x == ("__debug__" : Str)) = false := by decide) : PE X (.Name x pos) (tI (zn X) (mC (.int z))) := by
  obtain ⟨t, hm⟩ := hm
  exact pe_mono (pe_glob (v := .int z) hg hm ⟨t, rfl⟩ hd) fun σ H Q => re_c fun Hb => .int z
theorem iE_bin {op : Operator} {r : R2} {f : RV → RV → Option PV} (ho : OpR X (binaryOp op) r) (hs : Op2 (zn X) r f) (ha : PE X a (tI (zn X) ma)) (hb : PE X b (tI (zn X) mb)) : PE X (.BinOp a op b pos) (tI (zn X) (m2 f ma mb)) :=
  pe_mono (pe_op ho ha hb) fun σ H Q => re_m2 hs
theorem iE_add (ha : PE X a (tI (zn X) ma)) (hb : PE X b (tI (zn X) mb)) : PE X (.BinOp a .Add b pos) (tI (zn X) (m2 oAdd ma mb)) := iE_bin op_addU s_add ha hb
theorem iE_sub (ha : PE X a (tI (zn X) ma)) (hb : PE X b (tI (zn X) mb)) : PE X (.BinOp a .Sub b pos) (tI (zn X) (m2 oSub ma mb)) := iE_bin op_sub s_sub ha hb
theorem iE_mul (ha : PE X a (tI (zn X) ma)) (hb : PE X b (tI (zn X) mb)) : PE X (.BinOp a .Mult b pos) (tI (zn X) (m2 oMul ma mb)) := iE_bin op_mulW s_mul ha hb
theorem iE_div (ha : PE X a (tI (zn X) ma)) (hb : PE X b (tI (zn X) mb)) : PE X (.BinOp a .FloorDiv b pos) (tI (zn X) (m2 oDiv ma mb)) := iE_bin op_fdiv s_div ha hb
theorem iE_mod (ha : PE X a (tI (zn X) ma)) (hb : PE X b (tI (zn X) mb)) : PE X (.BinOp a .Mod b pos) (tI (zn X) (m2 oMod ma mb)) := iE_bin op_mod s_mod ha hb
theorem iE_pow (ha : PE X a (tI (zn X) ma)) (hb : PE X b (tI (zn X) mb)) : PE X (.BinOp a .Pow b pos) (tI (zn X) (m2 oPow ma mb)) := iE_bin op_powW s_pow ha hb
theorem iE_neg (ha : PE X a (tI (zn X) ma)) : PE X (.UnaryOp .USub a pos) (tI (zn X) (m1 oNeg ma)) := pe_mono (pe_un un_neg ha) fun σ H Q => re_m1 s_neg
theorem iE_cmp {op : CmpOp} {r : R2} {f : RV → RV → Option PV} (ho : OpR X (compareOp op) r) (hs : Op2 (zn X) r f) (ha : PE X a (tI (zn X) ma)) (hb : PE X b (tI (zn X) mb)) (hm : behindInMarks op b = false) : PE X (.Compare a [op] [b] pos) (tI (zn X) (m2 f ma mb)) :=
  pe_mono (pe_cmpR ho ha hb hm) fun σ H Q => re_m2 hs
theorem iT_cmp {op : CmpOp} {r : R2} {f : RV → RV → Option PV} (ho : OpR X (compareOp op) r) (hs : Op2 (zn X) r f) (ha : PE X a (tI (zn X) ma)) (hb : PE X b (tI (zn X) mb)) (hm : behindInMarks op b = false) : PT X (.Compare a [op] [b] pos) (tIT (zn X) (mTest (m2 f ma mb))) :=
  pt_mono (pt_cmpR ho ha hb hm) fun σ H Q h => re_m2 hs (re_test h)
theorem iE_chain {op op' : CmpOp} {r r' : R2} {f g : RV → RV → Option PV} (ho : OpR X (compareOp op) r) (hs : Op2 (zn X) r f) (ho' : OpR X (compareOp op') r') (hs' : Op2 (zn X) r' g) (ha : PE X a (tI (zn X) ma)) (hb : PE X b (tI (zn X) mb)) (hc : PE X c (tI (zn X) mc))
    (hm : lastMarks [op, op'] [b, c] = false := by with_unfolding_all rfl) : PE X (.Compare a [op, op'] [b, c] pos) (tI (zn X) (mChain f g ma mb mc)) := pe_mono (pe_chain ho ho' ha hb hc hm) fun σ H Q => re_chain hs hs'
theorem iT_chain {op op' : CmpOp} {r r' : R2} {f g : RV → RV → Option PV} (ho : OpR X (compareOp op) r) (hs : Op2 (zn X) r f) (ho' : OpR X (compareOp op') r') (hs' : Op2 (zn X) r' g) (ha : PE X a (tI (zn X) ma)) (hb : PE X b (tI (zn X) mb)) (hc : PE X c (tI (zn X) mc))
    (hm : lastMarks [op, op'] [b, c] = false := by with_unfolding_all rfl) : PT X (.Compare a [op, op'] [b, c] pos) (tIT (zn X) (mTest (mChain f g ma mb mc))) := pt_mono (pt_chain ho ho' ha hb hc hm) fun σ H Q h => re_chain hs hs' (re_test h)
theorem iE_and (ha : PE X a (tI (zn X) ma)) (hb : PE X (.BoolOp .And (b :: rest) pos) (tI (zn X) mb)) : PE X (.BoolOp .And (a :: b :: rest) pos) (tI (zn X) (mAnd ma mb)) := pe_mono (pe_and ha hb) fun σ H Q => re_and
theorem iE_or (ha : PE X a (tI (zn X) ma)) (hb : PE X (.BoolOp .Or (b :: rest) pos) (tI (zn X) mb)) : PE X (.BoolOp .Or (a :: b :: rest) pos) (tI (zn X) (mOr ma mb)) := pe_mono (pe_or ha hb) fun σ H Q => re_or
theorem iE_one {op} (ha : PE X a (tI (zn X) ma)) : PE X (.BoolOp op [a] pos) (tI (zn X) ma) := pe_one ha
theorem iE_not (ha : PE X a (tI (zn X) ma)) : PE X (.UnaryOp .Not a pos) (tI (zn X) (mNot ma)) := pe_mono (pe_not ha) fun σ H Q => re_not
theorem iE_if (hc : PT X c (tIT (zn X) mt)) (ha : PE X a (tI (zn X) ma)) (hb : PE X b (tI (zn X) mb)) : PE X (.IfExp c a b pos) (tI (zn X) (mIf mt ma mb)) := pe_mono (pe_ifExp hc ha hb) fun σ H Q => re_if
theorem iW_and1 (ha : PT X a (tIT (zn X) mt)) : PW X (.BoolOp .And [a] pos) (tIT (zn X) mt) := pw_and1 ha
theorem iW_or1 (ha : PT X a (tIT (zn X) mt)) : PW X (.BoolOp .Or [a] pos) (tIT (zn X) mt) := pw_or1 ha
theorem iW_and (ha : PT X a (tIT (zn X) mt)) (hb : PW X (.BoolOp .And (b :: rest) pos) (tIT (zn X) mu)) : PW X (.BoolOp .And (a :: b :: rest) pos) (tIT (zn X) (mAndT mt mu)) := pw_mono (pw_and ha hb) fun σ H Q => re_andT
theorem iW_or (ha : PT X a (tIT (zn X) mt)) (hb : PW X (.BoolOp .Or (b :: rest) pos) (tIT (zn X) mu)) : PW X (.BoolOp .Or (a :: b :: rest) pos) (tIT (zn X) (mOrT mt mu)) := pw_mono (pw_or ha hb) fun σ H Q => re_orT
theorem iT_w (h : PW X a (tIT (zn X) mt)) : PT X a (tIT (zn X) mt) := h.pt
theorem iT_not (ha : PT X a (tIT (zn X) mt)) : PT X (.UnaryOp .Not a pos) (tIT (zn X) (mNotT mt)) := pt_mono (pt_not ha) fun σ H Q => re_notT
theorem iT_tru (ha : PE X a (tI (zn X) ma)) (he : ∀ whole, isTrue a X.env whole = (do let v ← whole; standAt a.pos; holding [v] (truthy v)) := by intro _; rfl) : PT X a (tIT (zn X) (mTru ma)) := pt_mono (pt_truth ha he) fun σ H Q => re_tru
theorem iA_nil : PA X [] (tIA (zn X) mNil) := pa_mono pa_nil fun σ H Q => re_nil
theorem iA_cons (ha : PE X a (tI (zn X) ma)) (hr : PA X es (tIA (zn X) mas)) (hs : starEach (a :: es) X.env = (false, eval a X.env) :: starEach es X.env := by rfl) : PA X (a :: es) (tIA (zn X) (mCons ma mas)) := pa_mono (pa_cons ha hr hs) fun σ H Q => re_cons
theorem iE_tup {k} (h : PA X es (tIA (zn X) mas)) : PE X (.Tuple es k pos) (tI (zn X) (mTup mas)) := pe_mono (pe_tupN h) fun σ H Q => re_tup
theorem iE_lst (h : PA X es (tIA (zn X) mas)) : PE X (.List es pos) (tI (zn X) (mLst mas)) := pe_mono (pe_lst h) fun σ H Q => re_lst
theorem iE_ix (ha : PE X a (tI (zn X) ma)) (hb : PE X b (tI (zn X) mb)) (hs : PlainIx b := by intro _ _; rfl) : PE X (.Subscript a b pos) (tI (zn X) (m2 oIx ma mb)) := pe_mono (pe_ix ix_seq ha hb hs) fun σ H Q => re_m2 s_ix
theorem iO_none : PO X none (tIO (zn X) mNoP) := ⟨fun pins s σ H Q I h => po_none.run pins s σ H Q I (re_noP h)⟩
theorem iO_some (h : PE X a (tI (zn X) ma)) : PO X (some a) (tIO (zn X) (mP ma)) := ⟨fun pins s σ H Q I q => (po_some h).run pins s σ H Q I (re_P q)⟩
theorem iE_sl {lo hi : Option Expr} {l h : MO} (ha : PE X a (tI (zn X) ma)) (hl : PO X lo (tIO (zn X) l)) (hh : PO X hi (tIO (zn X) h)) : PE X (.Subscript a (.Slice lo hi none p2) pos) (tI (zn X) (mSl ma l h)) := pe_mono (pe_slice sl_U ha hl hh) fun σ H Q => re_sl
/-! built-ins -/
theorem iE_B {id : String} {r : List V → Hp → VK → Prop} {f : List RV → Option PV} (hc : CallR X (.builtin id) r) (hs : OpN (zn X) r f) (hg : Gl X x) (hm : X.mg x = none) (hv : bootBuiltins x = some (.builtin id)) (ha : PA X (a :: es) (tIA (zn X) mas)) (hn : x ≠ "__name__" := by decide) (hdb : (x == ("__debug__" : Str)) = false := by decide)
    (he : starEach (a :: es) X.env = (false, eval a X.env) :: starEach es X.env := by rfl) (hpl : (backTo pos (starEach es X.env)).any (·.1) = false := by rfl) : PE X (.Call (.Name x p) (a :: es) [] pos) (tI (zn X) (mB f mas)) := pe_mono (pe_callB hc hg hm hv ha hn hdb he hpl) fun σ H Q => re_mB hs
theorem iE_Ty {T : String} {r : List V → Hp → VK → Prop} {f : List RV → Option PV} (hc : CallR X (.type T) r) (hs : OpN (zn X) r f) (hg : Gl X x) (hm : X.mg x = none) (hv : bootBuiltins x = some (.type T)) (ha : PA X (a :: es) (tIA (zn X) mas)) (hn : x ≠ "__name__" := by decide) (hdb : (x == ("__debug__" : Str)) = false := by decide)
    (he : starEach (a :: es) X.env = (false, eval a X.env) :: starEach es X.env := by rfl) (hpl : (backTo pos (starEach es X.env)).any (·.1) = false := by rfl) : PE X (.Call (.Name x p) (a :: es) [] pos) (tI (zn X) (mB f mas)) := pe_mono (pe_callTy hc hg hm hv ha hn hdb he hpl) fun σ H Q => re_mB hs
theorem iE_Ty0 {T : String} {r : List V → Hp → VK → Prop} {f : List RV → Option PV} (hc : CallR X (.type T) r) (hs : OpN (zn X) r f) (hg : Gl X x) (hm : X.mg x = none) (hv : bootBuiltins x = some (.type T)) (hn : x ≠ "__name__" := by decide) (hdb : (x == ("__debug__" : Str)) = false := by decide) :
    PE X (.Call (.Name x p) [] [] pos) (tI (zn X) (mB f mNil)) := pe_mono (pe_callTy0 hc hg hm hv hn hdb) fun σ H Q h => by
  have z := re_mB hs h
  exact re_nil z
theorem iE_isi {T : Str} {TT : String} {pT : Pos} (hg : Gl X "isinstance") (hm : X.mg "isinstance" = none) (ha : PE X a (tI (zn X) ma)) (hT : Gl X T) (hmT : X.mg T = none) (hvT : bootBuiltins T = some (.type TT)) (hnT : T ≠ "__name__" := by decide) (hdT : (T == ("__debug__" : Str)) = false := by decide)
    (hs : starEach (a :: [.Name T pT]) X.env = (false, eval a X.env) :: starEach [.Name T pT] X.env := by rfl) : PE X (.Call (.Name "isinstance" p) [a, .Name T pT] [] pos) (tI (zn X) (mIsi ma TT)) :=
  pe_mono (pe_callB call_isi hg hm (by rfl) (pa_cons ha (pa_cons (pe_bltn (v := .ty TT) hT hmT hvT rfl hnT hdT) pa_nil) hs) (by decide) (by decide) hs (by rfl)) fun σ H Q => re_isi
theorem iE_isi2 {T T' : Str} {TT TT' : String} {k} {pT pT' pt : Pos} (hg : Gl X "isinstance") (hm : X.mg "isinstance" = none) (ha : PE X a (tI (zn X) ma)) (hT : Gl X T) (hmT : X.mg T = none) (hvT : bootBuiltins T = some (.type TT)) (hT' : Gl X T') (hmT' : X.mg T' = none) (hvT' : bootBuiltins T' = some (.type TT'))
    (hnT : T ≠ "__name__" := by decide) (hdT : (T == ("__debug__" : Str)) = false := by decide) (hnT' : T' ≠ "__name__" := by decide) (hdT' : (T' == ("__debug__" : Str)) = false := by decide)
    (hs : starEach (a :: [.Tuple [.Name T pT, .Name T' pT'] k pt]) X.env = (false, eval a X.env) :: starEach [.Tuple [.Name T pT, .Name T' pT'] k pt] X.env := by rfl) : PE X (.Call (.Name "isinstance" p) [a, .Tuple [.Name T pT, .Name T' pT'] k pt] [] pos) (tI (zn X) (mIsi2 ma TT TT')) :=
  pe_mono (pe_callB call_isiT hg hm (by rfl) (pa_cons ha (pa_cons (pe_tup (pa_cons (pe_bltn (v := .ty TT) hT hmT hvT rfl hnT hdT) (pa_cons (pe_bltn (v := .ty TT') hT' hmT' hvT' rfl hnT' hdT') pa_nil))) pa_nil) hs) (by decide) (by decide) hs (by rfl)) fun σ H Q => re_isi2
theorem iE_sortedSet (hc : X.calm = true) (hg : Gl X "sorted") (hm : X.mg "sorted" = none) (hg' : Gl X "set") (hm' : X.mg "set" = none) (ha : PE X a (tI (zn X) ma))
    (hs : starEach [a] X.env = (false, eval a X.env) :: starEach [] X.env := by rfl) : PE X (.Call (.Name "sorted" p) [.Call (.Name "set" p1) [a] [] p2] [] pos) (tI (zn X) (mSortedSet ma)) :=
  pe_mono (pe_callB (cr_sortedQ hc) hg hm (by rfl) (pa_cons (pe_callTy (cr_setK hc) hg' hm' (by rfl) (pa_cons ha pa_nil hs) (by decide) (by decide) hs (by rfl)) pa_nil) (by decide) (by decide) (by rfl) (by rfl)) fun σ H Q => re_sortedSet
/-! calls -/
theorem iE_call {F : Fn} {ios : List Bool} (c : Fok (zn X) X.mg X.base k x F) (hr : Room j X.A) (hk : k ≤ j) (hg : Gl X x) (ha : PA X (a :: es) (tIA (zn X) mas)) (hdb : (x == ("__debug__" : Str)) = false := by decide)
    (he : starEach (a :: es) X.env = (false, eval a X.env) :: starEach es X.env := by rfl) (hpl : (backTo pos (starEach es X.env)).any (·.1) = false := by rfl) : PE X (.Call (.Name x p) (a :: es) [] pos) (tI (zn X) (mCall ios F mas)) := by
  obtain ⟨f, fd, ps, F', hm, kp, b⟩ := c.ex
  exact pe_mono (pe_call F' (hr.mono hk) hg hm kp b .nil L2.pass0 ha hdb he hpl) fun σ H Q h => re_call (E := L2.E0) h
/-! methods of lists and sets -/
theorem iE_append {ox : Str} {po : Pos} (ho : PE X (.Name ox po) (tVar i)) (ha : PA X (a :: es) (tIA (zn X) mas))
    (hb : attributeBase (.Name ox po) "append" X.env (eval (.Name ox po) X.env) = eval (.Name ox po) X.env := by rfl) (hf : ((backTo cpos (starEach (a :: es) X.env)).all (fun x => !x.1) && (backToKw cpos (keywordEach [] X.env)).all (fun x => x.1.isSome)
      && decide ((a :: es).length + ([] : List Keyword).length + (if ([] : List Keyword).isEmpty then 0 else 1) < 30)) = true := by rfl) (hl : (apos.endLine == cpos.line) = true := by rfl) (hs : starEach (a :: es) X.env = (false, eval a X.env) :: starEach es X.env := by rfl) (hp : (backTo cpos (starEach es X.env)).any (·.1) = false := by rfl) :
    PE X (.Call (.Attribute (.Name ox po) "append" apos) (a :: es) [] cpos) (tI (zn X) (mMeth 0 i fAppend mas)) := pe_mono (pe_bm PySem.F.plainAttrs_list PySem.F.slot_list_append PySem.F.type_list_append mt_append ho ha hb hf hl hs hp) fun σ H Q => re_methL rfl m_append
theorem iE_popAt {ox : Str} {po : Pos} (ho : PE X (.Name ox po) (tVar i)) (ha : PA X (a :: es) (tIA (zn X) mas))
    (hb : attributeBase (.Name ox po) "pop" X.env (eval (.Name ox po) X.env) = eval (.Name ox po) X.env := by rfl) (hf : ((backTo cpos (starEach (a :: es) X.env)).all (fun x => !x.1) && (backToKw cpos (keywordEach [] X.env)).all (fun x => x.1.isSome)
      && decide ((a :: es).length + ([] : List Keyword).length + (if ([] : List Keyword).isEmpty then 0 else 1) < 30)) = true := by rfl) (hl : (apos.endLine == cpos.line) = true := by rfl) (hs : starEach (a :: es) X.env = (false, eval a X.env) :: starEach es X.env := by rfl) (hp : (backTo cpos (starEach es X.env)).any (·.1) = false := by rfl) :
    PE X (.Call (.Attribute (.Name ox po) "pop" apos) (a :: es) [] cpos) (tI (zn X) (mMeth 0 i fPopAt mas)) := pe_mono (pe_bm PySem.F.plainAttrs_list PySem.F.slot_list_pop PySem.F.type_list_pop mt_popAt ho ha hb hf hl hs hp) fun σ H Q => re_methL rfl m_popAt
theorem iE_pop {ox : Str} {po : Pos} (ho : PE X (.Name ox po) (tVar i))
    (hb : attributeBase (.Name ox po) "pop" X.env (eval (.Name ox po) X.env) = eval (.Name ox po) X.env := by rfl) (hl : (apos.endLine == cpos.line) = true := by rfl) :
    PE X (.Call (.Attribute (.Name ox po) "pop" apos) [] [] cpos) (tI (zn X) (mMeth 0 i fPop mNil)) := pe_mono (pe_bm0 PySem.F.plainAttrs_list PySem.F.slot_list_pop PySem.F.type_list_pop mt_pop ho hb hl) fun σ H Q => re_methL0 rfl m_pop
theorem iE_clear {ox : Str} {po : Pos} (ho : PE X (.Name ox po) (tVar i))
    (hb : attributeBase (.Name ox po) "clear" X.env (eval (.Name ox po) X.env) = eval (.Name ox po) X.env := by rfl) (hl : (apos.endLine == cpos.line) = true := by rfl) :
    PE X (.Call (.Attribute (.Name ox po) "clear" apos) [] [] cpos) (tI (zn X) (mMeth 0 i fClear mNil)) := pe_mono (pe_bm0 PySem.F.plainAttrs_list PySem.F.slot_list_clear PySem.F.type_list_clear mt_clear ho hb hl) fun σ H Q => re_methL0 rfl m_clear
theorem iE_sadd {ox : Str} {po : Pos} (ho : PE X (.Name ox po) (tVar i)) (ha : PA X (a :: es) (tIA (zn X) mas))
    (hb : attributeBase (.Name ox po) "add" X.env (eval (.Name ox po) X.env) = eval (.Name ox po) X.env := by rfl) (hf : ((backTo cpos (starEach (a :: es) X.env)).all (fun x => !x.1) && (backToKw cpos (keywordEach [] X.env)).all (fun x => x.1.isSome)
      && decide ((a :: es).length + ([] : List Keyword).length + (if ([] : List Keyword).isEmpty then 0 else 1) < 30)) = true := by rfl) (hl : (apos.endLine == cpos.line) = true := by rfl) (hs : starEach (a :: es) X.env = (false, eval a X.env) :: starEach es X.env := by rfl) (hp : (backTo cpos (starEach es X.env)).any (·.1) = false := by rfl) :
    PE X (.Call (.Attribute (.Name ox po) "add" apos) (a :: es) [] cpos) (tI (zn X) (mMeth 1 i fAdd mas)) := pe_mono (pe_saddK ho ha hb hf hl hs hp) fun σ H Q => re_saddK m_add
/-! targets, what is walked, comprehensions -/
variable {g : MG} {is : List Nat} {mi : MI} {tg iter elt : Expr} {ifs : List Expr} {scope : Scope} {own : List (Str × Nat)}
theorem iG_name (hN : X.N.Nodup) (hi : X.N[i]? = some x) (hx : Loc X.env.scope x) (hf : X.fn x = true ∨ X.env.scope.names.lookup x = some .local := by first | exact .inl rfl | exact .inr rfl) : PG X (.Name x pos) (tG (zn X) [i] (store i)) :=
  ⟨fun pins s σ H v u Q I r h => (pg_name hN hi hx hf).run pins s σ H v u Q I r (rg_name h)⟩
theorem iGs_nil : PGs X [] (gNames []) := pgs_nil
theorem iGs_cons (hN : X.N.Nodup) (hi : X.N[i]? = some x) (hx : Loc X.env.scope x) (hr : PGs X es (gNames is)) (hf : X.fn x = true ∨ X.env.scope.names.lookup x = some .local := by first | exact .inl rfl | exact .inr rfl)
    (hs : (assignEach (.Name x pos :: es) X.env).map (·.2) = assign (.Name x pos) X.env :: (assignEach es X.env).map (·.2) := by rfl) : PGs X (.Name x pos :: es) (gNames (i :: is)) := pgs_cons (pg_name hN hi hx hf) hr hs
theorem iG_tup {k : Nat} (hc : X.calm = true) (h : PGs X es (gNames is)) (hn : (assignEach es X.env).length = is.length := by rfl) (hst : (assignEach es X.env).findIdx? (·.1) = none := by rfl) : PG X (.Tuple es k pos) (tG (zn X) is (mNames is)) :=
  ⟨fun pins s σ H v u Q I r q => (pg_tup hc h hn hst).run pins s σ H v u Q I r (rg_names q)⟩
theorem iI_U (h : PE X a (tI (zn X) ma)) : PI X tg a (tII (zn X) (mIter ma)) := ⟨fun pins s σ H R I q => (pi_U h).run pins s σ H R I (ri_iter q)⟩
theorem iI_range1 (hg : Gl X "range") (hm : X.mg "range" = none) (ha : PA X [a] (tIA (zn X) mas)) (hs : starEach [a] X.env = [(false, eval a X.env)] := by rfl) : PI X tg (.Call (.Name "range" p) [a] [] pos) (tII (zn X) (mRange1 mas)) :=
  ⟨fun pins s σ H R I q => (pi_range1 hg hm ha hs).run pins s σ H R I (ri_range1 q)⟩
theorem iI_range2 (hg : Gl X "range") (hm : X.mg "range" = none) (ha : PA X [a, b] (tIA (zn X) mas)) (hs : starEach [a, b] X.env = [(false, eval a X.env), (false, eval b X.env)] := by rfl) (hs2 : starEach [b] X.env = [(false, eval b X.env)] := by rfl) : PI X tg (.Call (.Name "range" p) [a, b] [] pos) (tII (zn X) (mRange2 mas)) :=
  ⟨fun pins s σ H R I q => (pi_range2 hg hm ha hs hs2).run pins s σ H R I (ri_range2 q)⟩
theorem iI_enum {elts : List Expr} {kk : Nat} {tpos : Pos} (hg : Gl X "enumerate") (hm : X.mg "enumerate" = none) (ha : PA X [a] (tIA (zn X) mas)) (hs : starEach [a] X.env = [(false, eval a X.env)] := by rfl) :
    PI X (.Tuple elts kk tpos) (.Call (.Name "enumerate" p) [a] [] pos) (tII (zn X) (mEnum mas)) :=
  ⟨fun pins s σ H R I q => (PI.or (pi_enum hg hm ha hs) (pi_enumT hg hm ha hs)).run pins s σ H R I (ri_enum q)⟩
@[simp] def mYes : MT := fun env => some (true, env)
theorem iF_nil : PTs X [] (tIT (zn X) mYes) := ⟨fun pins s σ H Q I h => by
  obtain ⟨B, Hb, env, b, env', st, e, q⟩ := h
  cases e
  exact pts_nil.run pins s σ H Q I (q Hb H (.refl st))⟩
theorem iF_one (h : PT X c (tIT (zn X) mt)) : PTs X [c] (tIT (zn X) mt) := pts_one h
def mCompN (own : List (Str × Nat)) (g : MG) (it : MI) (c : MT) (elt : ME) : ME := mComp (own.map (·.2)) g it c elt
def mDCompN (own : List (Str × Nat)) (g : MG) (it : MI) (c : MT) (ek ev : ME) : ME := mDComp (own.map (·.2)) g it c ek ev
theorem iE_lc (hc : X.calm = true) (hN : X.N.Nodup) (hi : PI X tg iter (tII (zn X) mi)) (ok : BlkOk X.N X.env.scope scope own)
    (hg : ∀ (s : Shared) (H : Hp) (C : Addr) (cl : List (Str × Addr)) (fp : List Addr), PG (X.blk s H scope (compEnvC scope cl C X.env) fp) tg (tG (zn X) is g)) (ht : ∀ (s : Shared) (H : Hp) (C : Addr) (cl : List (Str × Addr)) (fp : List Addr), PTs (X.blk s H scope (compEnvC scope cl C X.env) fp) ifs (tIT (zn X) mt))
    (he : ∀ (s : Shared) (H : Hp) (C : Addr) (cl : List (Str × Addr)) (fp : List Addr), PE (X.blk s H scope (compEnvC scope cl C X.env) fp) elt (tI (zn X) ma)) (his : ∀ i ∈ is, i ∈ own.map (·.2)) (hs : ∀ x, foldedSetIterable iter X.env x = pure x := by intro _; rfl) :
    PE X (.ListComp elt [⟨tg, iter, ifs, 0⟩] scope pos) (tI (zn X) (mCompN own g mi mt ma)) := pe_mono (pe_lc hc hN hi ok hg ht he hs) fun σ H Q => re_comp his
theorem iE_dc {kx vx : Expr} (hc : X.calm = true) (hN : X.N.Nodup) (hi : PI X tg iter (tII (zn X) mi)) (ok : BlkOk X.N X.env.scope scope own)
    (hg : ∀ (s : Shared) (H : Hp) (C : Addr) (cl : List (Str × Addr)) (fp : List Addr), PG (X.blk s H scope (compEnvC scope cl C X.env) fp) tg (tG (zn X) is g)) (ht : ∀ (s : Shared) (H : Hp) (C : Addr) (cl : List (Str × Addr)) (fp : List Addr), PTs (X.blk s H scope (compEnvC scope cl C X.env) fp) ifs (tIT (zn X) mt))
    (hk : ∀ (s : Shared) (H : Hp) (C : Addr) (cl : List (Str × Addr)) (fp : List Addr), PE (X.blk s H scope (compEnvC scope cl C X.env) fp) kx (tI (zn X) ma))
    (he : ∀ (s : Shared) (H : Hp) (C : Addr) (cl : List (Str × Addr)) (fp : List Addr), PE (X.blk s H scope (compEnvC scope cl C X.env) fp) vx (tI (zn X) mb)) (his : ∀ i ∈ is, i ∈ own.map (·.2)) (hs : ∀ x, foldedSetIterable iter X.env x = pure x := by intro _; rfl) :
    PE X (.DictComp kx vx [⟨tg, iter, ifs, 0⟩] scope pos) (tI (zn X) (mDCompN own g mi mt ma mb)) := pe_mono (pe_dc hc hN hi ok hg ht hk he hs) fun σ H Q => re_dcomp his
/-! statements -/
variable {st : Stmt} {sts body : List Stmt} {ms mr : MS}
theorem iSs_nil : PSs X [] (tS (zn X) mSkip) := pss_mono pss_nil fun D σ H => rs_skip
theorem iSs_one (h : PS X st (tS (zn X) ms)) : PSs X [st] (tS (zn X) ms) := pss_one h
theorem iSs_cons (h : PS X st (tS (zn X) ms)) (hr : PSs X sts (tS (zn X) mr)) : PSs X (st :: sts) (tS (zn X) (mSeq ms mr)) := pss_mono (pss_cons h hr) fun D σ H => rs_seq
theorem iS_pass : PS X (.Pass pos) (tS (zn X) mSkip) := ps_mono ps_pass fun D σ H => rs_skip
theorem iS_doc {z : Str} {j} : PS X (.Expr (.Constant (.str z) j p) pos) (tS (zn X) mSkip) := ps_mono ps_doc fun D σ H => rs_skip
theorem iS_break : PS X (.Break pos) (tS (zn X) mBreak) := ps_mono ps_break fun D σ H => rs_break
theorem iS_cont : PS X (.Continue pos) (tS (zn X) mCont) := ps_mono ps_continue fun D σ H => rs_cont
theorem iS_bad : PS X st (tS (zn X) mBad) := ps_mono ps_never fun D σ H => rs_bad
theorem iS_expr (he : PE X a (tI (zn X) ma)) (hs : swapsWith a none pos.line X.env = pure false := by rfl) : PS X (.Expr a pos) (tS (zn X) (mDrop ma)) := ps_mono (ps_expr he hs) fun D σ H => rs_drop
theorem iS_ret (he : PE X a (tI (zn X) ma)) : PS X (.Return (some a) pos) (tS (zn X) (mRet ma)) := ps_mono (ps_ret he) fun D σ H => rs_ret
theorem iS_retN : PS X (.Return none pos) (tS (zn X) mRetN) := ps_mono ps_retN fun D σ H => rs_retN
theorem iS_retT {k} (h : PA X es (tIA (zn X) mas)) : PS X (.Return (some (.Tuple es k p)) pos) (tS (zn X) (mRetT mas)) := ps_mono (ps_ret (pe_tup h)) fun D σ H => rs_retT
theorem iS_if {b1 b2 : List Stmt} (hc : PT X c (tIT (zn X) mt)) (ha : PSs X b1 (tS (zn X) ms)) (hb : PSs X b2 (tS (zn X) mr)) : PS X (.If c b1 b2 pos) (tS (zn X) (mIfS mt ms mr)) := ps_mono (ps_if hc ha hb) fun D σ H => rs_if
theorem iS_set (hN : X.N.Nodup) (hi : X.N[i]? = some x) (hx : Loc X.env.scope x) (he : PE X a (tI (zn X) ma)) (hs : swapsWith a (some (.Name x p)) pos.line X.env = pure false := by rfl) (hf : X.fn x = true ∨ X.env.scope.names.lookup x = some .local := by first | exact .inl rfl | exact .inr rfl) :
    PS X (.Assign [.Name x p] a pos) (tS (zn X) (mAsg (store i) ma)) := ps_mono (ps_set hN hi hx he hs hf) fun D σ H h => tI_mono (rs_asg (is := [i]) h) fun v H' => rg_name
theorem iS_setLc {spos : Pos} (hc : X.calm = true) (hN : X.N.Nodup) (hy : X.N[i]? = some x) (hyl : X.env.scope.names.lookup x = some .local)
    (hsw : swapsWith (.ListComp elt [⟨tg, iter, ifs, 0⟩] scope pos) (some (.Name x py)) spos.line X.env = pure true) (hi : PI X tg iter (tII (zn X) mi)) (ok : BlkOk X.N X.env.scope scope own)
    (hg : ∀ (s : Shared) (H : Hp) (C : Addr) (cl : List (Str × Addr)) (fp : List Addr), PG (X.blk s H scope (compEnvC scope cl C X.env) fp) tg (tG (zn X) is g)) (ht : ∀ (s : Shared) (H : Hp) (C : Addr) (cl : List (Str × Addr)) (fp : List Addr), PTs (X.blk s H scope (compEnvC scope cl C X.env) fp) ifs (tIT (zn X) mt))
    (he : ∀ (s : Shared) (H : Hp) (C : Addr) (cl : List (Str × Addr)) (fp : List Addr), PE (X.blk s H scope (compEnvC scope cl C X.env) fp) elt (tI (zn X) ma)) (his : ∀ i ∈ is, i ∈ own.map (·.2)) (hs : ∀ x, foldedSetIterable iter X.env x = pure x := by intro _; rfl) :
    PS X (.Assign [.Name x py] (.ListComp elt [⟨tg, iter, ifs, 0⟩] scope pos) spos) (tS (zn X) (mAsg (store i) (mCompN own g mi mt ma))) := ps_mono (ps_setLc hc hN hy hyl hsw hi ok hg ht he hs) fun D σ H h => re_comp his (tI_mono (rs_asg (is := [i]) h) fun v H' => rg_name)
theorem iS_asg (he : PE X a (tI (zn X) ma)) (hg : PG X tg (tG (zn X) is g)) (hs : swapsWithSole [tg] a pos.line X.env = pure false := by rfl) (hw : swappedStores [tg] a X.env = pure none := by rfl) (h1 : (assignEach [tg] X.env).map (·.2) = [assign tg X.env] := by rfl) :
    PS X (.Assign [tg] a pos) (tS (zn X) (mAsg g ma)) := ps_mono (ps_asg he hg hs hw h1) fun D σ H => rs_asg
@[simp] def mPar (is : List Nat) (a : MA) : MS := fun env => (a env).bind fun xs => (stores is xs.1 xs.2).bind fun e => some (.nx e)
theorem rs_par {Z : Zn} {i j : Nat} {ma : MA} {D : Ends} {σ : L2.St} {H : Hp} (h : tS Z (mPar [i, j] ma) D σ H) : tPar i j (tIA Z ma) D σ H := by
  obtain ⟨B, Hb, env, r, st, e, q⟩ := h
  simp only [mPar, Option.bind_eq_some_iff] at e
  obtain ⟨⟨xs, e1⟩, ha, e2, h1, h2⟩ := e
  cases h2
  refine ⟨B, Hb, env, xs, e1, st, ha, fun vs ps Hb1 H1 g1 rv => ?_⟩
  obtain ⟨l, v, r, rfl, w, r', rfl, e3, z⟩ := Sta.stores g1.st rv (fun p hp w => own_some st p (g1.ow p w) (rv.fresh p hp)) (fun p hp => st.h0 p (rv.fresh p hp)) h1 (fun σ' H' => D.nx σ' H') fun σ' s _ _ => q σ' Hb1 H1 s g1.ny.kb
  subst e3
  exact ⟨v, w, rfl, z⟩
theorem rs_par3 {Z : Zn} {i j l : Nat} {ma : MA} {D : Ends} {σ : L2.St} {H : Hp} (h : tS Z (mPar [i, j, l] ma) D σ H) : tPar3 i j l (tIA Z ma) D σ H := by
  obtain ⟨B, Hb, env, r, st, e, q⟩ := h
  simp only [mPar, Option.bind_eq_some_iff] at e
  obtain ⟨⟨xs, e1⟩, ha, e2, h1, h2⟩ := e
  cases h2
  refine ⟨B, Hb, env, xs, e1, st, ha, fun vs ps Hb1 H1 g1 rv => ?_⟩
  obtain ⟨l, v, r, rfl, w, r', rfl, u, r'', rfl, e3, z⟩ := Sta.stores g1.st rv (fun p hp w => own_some st p (g1.ow p w) (rv.fresh p hp)) (fun p hp => st.h0 p (rv.fresh p hp)) h1 (fun σ' H' => D.nx σ' H') fun σ' s _ _ => q σ' Hb1 H1 s g1.ny.kb
  subst e3
  exact ⟨v, w, u, rfl, z⟩
theorem iS_par {y : Str} {pt pt2 : Pos} {kt k2} (hc : X.calm = true) (hN : X.N.Nodup) (hi : X.N[i]? = some x) (hj : X.N[j]? = some y) (hij : i ≠ j) (hx : X.env.scope.names.lookup x = some .local) (hy : X.env.scope.names.lookup y = some .local) (ha : PA X [a, b] (tIA (zn X) mas))
    (hw : swappedStores [.Tuple [.Name x px, .Name y py] kt pt] (.Tuple [a, b] k2 pt2) X.env = pure (some [x, y])) (hs : swapsWithSole [.Tuple [.Name x px, .Name y py] kt pt] (.Tuple [a, b] k2 pt2) pos.line X.env = pure false := by rfl) :
    PS X (.Assign [.Tuple [.Name x px, .Name y py] kt pt] (.Tuple [a, b] k2 pt2) pos) (tS (zn X) (mPar [i, j] mas)) := ps_mono (ps_par hc hN hi hj hij hx hy ha hw hs) fun D σ H => rs_par
theorem iS_aug {op : Operator} {r : R2} {f : RV → RV → Option PV} (hN : X.N.Nodup) (hi : X.N[i]? = some x) (hx : Loc X.env.scope x) (ho : PIp X op r) (hs : Op2 (zn X) r f) (he : PE X a (tI (zn X) ma)) (hf : X.fn x = true ∨ X.env.scope.names.lookup x = some .local := by first | exact .inl rfl | exact .inr rfl) :
    PS X (.AugAssign (.Name x p) op a pos) (tS (zn X) (mAug i f ma)) := ps_mono (ps_aug hN hi hx he ho hf) fun D σ H => rs_aug hs
theorem iS_setIx {o : Expr} (ho : PE X o (tVar i)) (hi : PE X b (tI (zn X) mb)) (he : PE X a (tI (zn X) ma)) 
    (ha : ∀ v, assign (.Subscript o b p) X.env v = (do
      let ov ← holding [v] (eval o X.env)
      let iv ← holding [v, ov] (eval b X.env)
      standAt p
      holding [v, ov, iv] (setItem ov iv v)
      release [v, ov, iv] []) := by intro _; rfl) (hs : swapsWithSole [.Subscript o b p] a pos.line X.env = pure false := by rfl) (hw : swappedStores [.Subscript o b p] a X.env = pure none := by rfl) (h1 : (assignEach [.Subscript o b p] X.env).map (·.2) = [assign (.Subscript o b p) X.env] := by rfl) :
    PS X (.Assign [.Subscript o b p] a pos) (tS (zn X) (mSetIx i fSetL mb ma)) := ps_mono (ps_asg he (pg_sub ho hi set_list ha) hs hw h1) fun D σ H => rs_setIx t_setL
theorem iS_for (hp : PassesOwn (model X.prog X.w) X.A X.env X.xe) (hc : X.calm = true) (hi : PI X tg iter (tII (zn X) mi)) (hg : PG X tg (tG (zn X) is g)) (hb : PSs X body (tS (zn X) ms)) (hs : ∀ x, foldedSetIterable iter X.env x = pure x := by intro _; rfl) :
    PS X (.For tg iter body [] pos) (tS (zn X) (mFor g mi ms)) := ps_mono (ps_for hp hc hi hg hb hs) fun D σ H => rs_for
end
end Ol
set_option Elab.async false
set_option linter.all false
set_option maxRecDepth 100000
set_option maxHeartbeats 4000000
/-! own: calls by keywords alone -/
namespace Ol
open PySem PySem.Spec PyProof.Rows L2
def pick : List Nat → List PV → Option (List PV)
  | [], _ => some []
  | i :: is, xs => (xs[i]?).bind fun x => (pick is xs).bind fun r => some (x :: r)
def pickV (is : List Nat) (zs : List V) : List V := is.map fun i => zs.getD i .non
def pickW (is : List Nat) (ws : List Value) : List Value := is.map fun i => ws.getD i .none
theorem pick_vals {zs : List V} {ws : List Value} (r : Vals zs ws) : ∀ is : List Nat, Vals (pickV is zs) (pickW is ws)
  | [] => .nil
  | i :: is => by
    refine .cons ?_ (pick_vals r is)
    cases e : zs[i]? with
    | none =>
      have h1 := List.getElem?_eq_none_iff.mp e
      have h2 : ws[i]? = none := List.getElem?_eq_none_iff.mpr (by rw [← r.length]; exact h1)
      simp only [List.getD_eq_getElem?_getD, e, h2]
      exact rfl
    | some v =>
      obtain ⟨u, h1, h2⟩ := r.get e
      simp only [List.getD_eq_getElem?_getD, e, h1]
      exact h2
def mCallK (perm : List Nat) (ios : List Bool) (F : Fn) (a : MA) : ME := fun env => (a env).bind fun xs => (pick perm xs.1).bind fun ys => if okSlots (fzIO ios ys) = true then (pars xs.2 ios (fzIO ios ys)).bind fun ss => (F (ss.map (·.1))).bind fun r =>
  if (!(ss.any (·.2)) || (nlP r.1 && nlM r.2)) = true then (putOuts xs.2 (fzIO ios ys) r.2).bind fun e2 => some (r.1, e2) else none else none
section
variable {Z : Zn} {H0 Hb H : Hp} {σ : L2.St}
theorem VRs.pick {pvs : List PV} {vs : List V} {ps : List Addr} (h : VRs Z H0 Hb H σ vs pvs ps) : ∀ {is : List Nat} {ys : List PV}, is.Nodup → Ol.pick is pvs = some ys → ∃ ps', VRs Z H0 Hb H σ (pickV is vs) ys ps' ∧ ∀ p ∈ ps', ∃ k ∈ is, ∃ o, pvs[k]? = some (PV.new o) ∧ vs[k]? = some (V.ref p)
  | [], _, _, e => by cases e; exact ⟨[], .nil, by simp⟩
  | i :: is, _, nd, e => by
    simp only [Ol.pick, Option.bind_eq_some_iff] at e
    obtain ⟨x, h1, r, h2, h3⟩ := e
    cases h3
    obtain ⟨n1, n2⟩ := List.nodup_cons.mp nd
    obtain ⟨ps', q1, q2⟩ := h.pick n2 h2
    obtain ⟨v, h4, h5⟩ := h.get h1
    have ev : pickV (i :: is) vs = v :: pickV is vs := by simp [pickV, h4]
    rw [ev]
    have lift : ∀ p ∈ ps', ∃ k ∈ i :: is, ∃ o, pvs[k]? = some (PV.new o) ∧ vs[k]? = some (V.ref p) := fun p hp => let ⟨k, hk, z⟩ := q2 p hp; ⟨k, List.mem_cons_of_mem _ hk, z⟩
    cases h5 with
    | d a => exact ⟨ps', .d a q1, lift⟩
    | new a b c =>
      rename_i p o
      refine ⟨p :: ps', .new a b c (fun hp => ?_) q1, fun p' hp' => ?_⟩
      · obtain ⟨k, hk, o', z1, z2⟩ := q2 p hp
        exact n1 (h.df h1 z1 h4 z2 ▸ hk)
      · rcases List.mem_cons.mp hp' with z | z
        · subst z; exact ⟨i, List.mem_cons_self, o, h1, h4⟩
        · exact lift p' z
    | slot a => exact ⟨ps', .slot a q1, lift⟩
    | tup a t =>
      exfalso
      have z : ∀ {pvs : List PV} {vs : List V} {ps : List Addr} {j : Nat} {xs : List PV}, VRs Z H0 Hb H σ vs pvs ps → pvs[j]? = some (PV.tup xs) → False := by
        intro pvs
        induction pvs with
        | nil => intro vs ps j xs _ e; simp at e
        | cons y r ih =>
          intro vs ps j xs h e
          cases j with
          | zero => simp at e; subst e; cases h
          | succ j =>
            have e' : r[j]? = some (PV.tup xs) := by simpa using e
            cases h with
            | d a t => exact ih t e'
            | new a b c n t => exact ih t e'
            | slot a t => exact ih t e'
      exact z h h1
theorem re_callK {F : Fn} {perm : List Nat} {ios : List Bool} {ma : MA} {E : XK} {Q : VK} {n : Nat} (nd : perm.Nodup) (hn : ∀ env xs e, ma env = some (xs, e) → xs.length = n) (h : tI Z (mCallK perm ios F ma) σ H Q) :
    tCallN 0 n (spI Z F) (fun _ zs => pickV perm zs) E tNil (tIA Z ma) σ H Q := by
  obtain ⟨B, Hb, env, pv, env', st, e, q⟩ := h
  simp only [mCallK, Option.bind_eq_some_iff] at e
  obtain ⟨⟨xs, e1⟩, ha, ys, hy, e⟩ := e
  split at e
  · rename_i ok
    simp only [Option.bind_eq_some_iff] at e
    obtain ⟨ss, hs, ⟨r, outs⟩, hF, e⟩ := e
    split at e
    · rename_i cond
      simp only [Option.bind_eq_some_iff] at e
      obtain ⟨e2, hp, e⟩ := e
      cases e
      refine ⟨B, Hb, env, xs, e1, st, ha, fun vs ps Hb1 H1 g1 rv1 => ⟨rfl, by rw [rv1.len]; exact hn _ _ _ ha, ?_⟩⟩
      obtain ⟨ps', rv2, _⟩ := rv1.pick nd hy
      refine call_at st g1 rv2 ok hs hF (fun l => ?_) hp q
      rw [l] at cond
      simpa using cond
    · cases e
  · cases e
end
theorem mNil_len : ∀ env xs e, mNil env = some (xs, e) → xs.length = 0 := fun env xs e h => by cases h; rfl
theorem mCons_len {a : ME} {r : MA} {n : Nat} (hr : ∀ env xs e, r env = some (xs, e) → xs.length = n) : ∀ env xs e, mCons a r env = some (xs, e) → xs.length = n + 1 := fun env xs e h => by
  simp only [mCons, Option.bind_eq_some_iff] at h
  obtain ⟨x, h1, p, h2, ys, h3, h4⟩ := h
  cases h4
  exact congrArg Nat.succ (hr _ _ _ (by rw [h3]))
structure FokK (Z : Zn) (mg : Str → Option Value) (base : Heap) (k : Nat) (x : Str) (ks : List Str) (perm : List Nat) (F : Fn) : Prop where
  ex : ∃ (f : Addr) (fd : FuncData) (ps : List Str), FnOk Z.P Z.w Z.K mg base L2.CX0 k f fd ps (spI Z F) ∧ mg x = some (.ref f) ∧ PySem.W.keepIn Z.K (.ref f) = true ∧ KBn Z.K fd ps 0 ks (fun _ ws => pickW perm ws) (fun _ zs => pickV perm zs)
section
variable {X : Cx} {x : Str} {pos p : Pos} {j k : Nat} {mas : MA} {kws : List Keyword}
theorem iE_callK {F : Fn} {ios : List Bool} {ks : List Str} {perm : List Nat} (c : FokK (zn X) X.mg X.base k x ks perm F) (hr : Room j X.A) (hk : k ≤ j) (nd : perm.Nodup) (hn : ∀ env xs e, mas env = some (xs, e) → xs.length = ks.length) (hg : Gl X x) (ha : PK X kws (tIA (zn X) mas))
    (hks : (backToKw pos (keywordEach kws X.env)).filterMap (·.1) = ks := by rfl) (hdb : (x == ("__debug__" : Str)) = false := by decide) (hall : (backToKw pos (keywordEach kws X.env)).all (·.1.isSome) = true := by rfl)
    (hpl : ((backTo pos (starEach [] X.env)).any (·.1) || (backToKw pos (keywordEach kws X.env)).any (·.1.isNone)) = false := by rfl) : PE X (.Call (.Name x p) [] kws pos) (tI (zn X) (mCallK perm ios F mas)) := by
  obtain ⟨f, fd, ps, F', hm, kp, b⟩ := c.ex
  refine pe_mono (t := tCallN 0 ks.length (spI (zn X) F) (fun _ zs => pickV perm zs) L2.E0 tNil (tIA (zn X) mas)) ⟨fun pins s σ H Q I h => ?_⟩ fun σ H Q h => re_callK nd hn h
  refine wpAny_Call_Name_kw (ld_glob I hg hm ?_ hdb)
  refine PySem.W.callWith_KW0 (h₀ := X.base) I.ok.mod.kin kp hall (thn (ha.run pos pins s σ H _ I h) fun ws s2 ⟨zs, H2, I2, rz, l1, l2, q2⟩ => ⟨I2.kIn, ?_⟩) hpl
  rw [hks]
  exact run_fnN F' (hr.mono hk) b L2.pass0 I2 .nil rz l1 l2 q2
theorem iK_nil : PK X [] (tIA (zn X) mNil) := ⟨fun pos pins s σ H Q I h => pk_nil.run pos pins s σ H Q I (re_nil h)⟩
theorem iK_cons {nm : Option Str} {e : Expr} {kpos : Pos} {ma : ME} (ha : PE X e (tI (zn X) ma)) (hr : PK X kws (tIA (zn X) mas)) : PK X (⟨nm, e, kpos⟩ :: kws) (tIA (zn X) (mCons ma mas)) := ⟨fun pos pins s σ H Q I h => (pk_cons ha hr).run pos pins s σ H Q I (re_cons h)⟩
end
@[simp] def oIAdd := oII fun i j => some (iD (i + j))
theorem s_iadd {Z : Zn} : Op2 Z (rI0 fun i j => .int (i + j)) oIAdd := s_ii0
theorem spI_len {Z : Zn} {np n : Nat} {body : MS} {F : Fn} (hF : F = runFn np n body) : ∀ vs H Q E, spI Z F vs H Q E → vs.length = np := fun vs H Q E h => by
  subst hF
  obtain ⟨Hb, svs, r, outs, hl, st, hF, q⟩ := h
  unfold runFn at hF
  split at hF
  · rename_i c; exact hl.trans c
  · cases hF
theorem fok_none {P : Program} {w : World} {K : Fg} {mg : Str → Option Value} {base : Heap} {k : Nat} {f : Addr} {fd : FuncData} {ps : List Str} : FnOk P w K mg base L2.CX0 k f fd ps (spI ⟨K, P, w⟩ fun _ => none) :=
  ⟨fun vs H Q E h => (by obtain ⟨_, _, _, _, _, _, e, _⟩ := h; cases e), fun A outer s H args us vs Q E _ _ _ _ h => by obtain ⟨_, _, _, _, _, _, e, _⟩ := h; cases e⟩
/-- what the law's own def is asked, out of what it computes -/
theorem law_go {P : Program} {w : World} {K : Fg} {F : Fn} {sp : Sp}
    (hs : ∀ vs H Q E, sp vs H Q E → ∃ (a : Addr) (ns : List Int), vs = [.ref a] ∧ SqL K H a (ns.map V.int) ∧ F [.d (.list (ns.map .int))] = some (.d (.bool true), [none]) ∧ ∀ H', Q (.bl true) H') : ∀ vs H Q E, sp vs H Q E → spI ⟨K, P, w⟩ F vs H Q E := fun vs H Q E q => by
    obtain ⟨a, ns, rfl, hl, hF, hq⟩ := hs vs H Q E q
    refine ⟨H, [.d (.list (ns.map .int))], .d (.bool true), [none], rfl, ⟨.refl .rfl, fun i sv e => ?_, fun i j p b o b' o' e => ?_, rfl⟩, hF, fun v Hb' H' _ _ rv => ?_⟩
    · rw [sget_map] at e
      cases i with
      | zero =>
        simp at e
        subst e
        exact ⟨.ref a, rfl, .lst hl (DpAll.ints ns)⟩
      | succ i => simp at e
    · rw [sget_map] at e
      cases i with
      | zero => simp at e
      | succ i => simp at e
    · cases rv with
      | d z => cases z; exact hq H'
theorem fnOk_law {P : Program} {w : World} {K : Fg} {mg : Str → Option Value} {base : Heap} {k : Nat} {f : Addr} {fd : FuncData} {ps : List Str} {F : Fn} {sp : Sp} (h : FnOk P w K mg base L2.CX0 k f fd ps (spI ⟨K, P, w⟩ F))
    (hs : ∀ vs H Q E, sp vs H Q E → ∃ (a : Addr) (ns : List Int), vs = [.ref a] ∧ SqL K H a (ns.map V.int) ∧ F [.d (.list (ns.map .int))] = some (.d (.bool true), [none]) ∧ ∀ H', Q (.bl true) H') : FnOk P w K mg base L2.CX0 k f fd ps sp := by
  exact h.imp (law_go hs)
end Ol
namespace Ol
open PySem PySem.Spec PyProof.Rows L2
theorem kbn {K : Fg} {x qual : Str} {params : Arguments} {body : List Stmt} {scope : Scope} {kws : List (Str × V)} {f : Addr} {fd : FuncData} {ps ks : List Str} {perm : List Nat} (F : L2.FunD K x qual params body scope [] kws f fd)
    (h : ∀ (kV doc pm : Value) (an : Option Addr) (cdv ct : Value) (ws : List Value), ws.length = ks.length → bindArgs (PySem.W.fnOf x qual params body scope .none kV doc pm an cdv ct) ⟨[], ks.zip ws⟩ = pure (ps.zip (pickW perm ws))) :
    KBn K fd ps 0 ks (fun _ ws => pickW perm ws) (fun _ zs => pickV perm zs) := by
  refine ⟨fun s us ws X l1 l2 => ?_, fun r1 r2 => pick_vals r2 perm⟩
  have e : us = [] := List.eq_nil_of_length_eq_zero l1
  subst e
  obtain ⟨oc, od, dV, kV, doc, pm, an, cdv, ct, osl, rfl, lk, hcd, hD, hK⟩ := F.ex
  rcases hD with ⟨_, rfl⟩ | ⟨e, _⟩
  · exact .of_eq (h kV doc pm an cdv ct ws l2)
  · exact absurd rfl e
end Ol
/-! own: which form a goal has, told cheaply -/
namespace Ol
open PySem PySem.Spec PyProof.Rows L2
/-- a list that is never changed from here on -/
@[simp] def fzP : PV → PV
  | .new (.lst xs) => .d (.list xs)
  | x => x
@[simp] def mAsgF (i : Nat) (a : ME) : MS := fun env => (a env).bind fun x => (store i (fzP x.1) x.2).bind fun e => some (.nx e)
theorem rs_asgF {Z : Zn} {i : Nat} {a : ME} {D : Ends} {σ : L2.St} {H : Hp} (h : tS Z (mAsgF i a) D σ H) : tAsg (tI Z a) (gName i) D σ H := by
  obtain ⟨B, Hb, env, r, st, e, q⟩ := h
  simp only [mAsgF, Option.bind_eq_some_iff] at e
  obtain ⟨⟨x, e1⟩, ha, e2, h1, h2⟩ := e
  cases h2
  refine ⟨B, Hb, env, x, e1, st, ha, fun v Hb' H' g1 rv => ?_⟩
  have plain : fzP x = x → gName i v σ H' D.nx := fun hx => by
    rw [hx] at h1
    obtain ⟨s, _⟩ := g1.st.store (v := v) (fun y hy => by subst hy; cases rv with | d a => exact a) (fun o ho => by
      subst ho
      cases rv with
      | new a b c => exact ⟨_, rfl, fun w => own_some st _ (g1.ow _ w) a, b, st.h0 _ a, c⟩) h1
    exact q _ Hb' H' s g1.ny.kb
  cases x with
  | d y => exact plain rfl
  | slot j => exact plain rfl
  | tup xs => exact plain rfl
  | new o =>
    cases o with
    | set ks => exact plain rfl
    | dic kvs => exact plain rfl
    | dit kvs => exact plain rfl
    | lst xs =>
      obtain ⟨Hb2, g2, hd⟩ := fz_known st g1 rv rfl
      obtain ⟨s, _⟩ := g2.st.store (v := v) (fun y hy => by cases hy; exact hd) (fun o ho => by cases ho) h1
      exact q _ Hb2 H' s g2.ny.kb
section
variable {X : Cx} {x : Str} {a elt tg iter : Expr} {ifs : List Expr} {i : Nat} {p pos py : Pos} {ma : ME} {g : MG} {is : List Nat} {mi : MI} {mt : MT} {scope : Scope} {own : List (Str × Nat)}
theorem iS_setF (hN : X.N.Nodup) (hi : X.N[i]? = some x) (hx : Loc X.env.scope x) (he : PE X a (tI (zn X) ma)) (hs : swapsWith a (some (.Name x p)) pos.line X.env = pure false := by rfl) (hf : X.fn x = true ∨ X.env.scope.names.lookup x = some .local := by first | exact .inl rfl | exact .inr rfl) :
    PS X (.Assign [.Name x p] a pos) (tS (zn X) (mAsgF i ma)) := ps_mono (ps_set hN hi hx he hs hf) fun D σ H => rs_asgF
theorem iS_setLcF {spos : Pos} (hc : X.calm = true) (hN : X.N.Nodup) (hy : X.N[i]? = some x) (hyl : X.env.scope.names.lookup x = some .local)
    (hsw : swapsWith (.ListComp elt [⟨tg, iter, ifs, 0⟩] scope pos) (some (.Name x py)) spos.line X.env = pure true) (hi : PI X tg iter (tII (zn X) mi)) (ok : BlkOk X.N X.env.scope scope own)
    (hg : ∀ (s : Shared) (H : Hp) (C : Addr) (cl : List (Str × Addr)) (fp : List Addr), PG (X.blk s H scope (compEnvC scope cl C X.env) fp) tg (tG (zn X) is g)) (ht : ∀ (s : Shared) (H : Hp) (C : Addr) (cl : List (Str × Addr)) (fp : List Addr), PTs (X.blk s H scope (compEnvC scope cl C X.env) fp) ifs (tIT (zn X) mt))
    (he : ∀ (s : Shared) (H : Hp) (C : Addr) (cl : List (Str × Addr)) (fp : List Addr), PE (X.blk s H scope (compEnvC scope cl C X.env) fp) elt (tI (zn X) ma)) (his : ∀ i ∈ is, i ∈ own.map (·.2)) (hs : ∀ x, foldedSetIterable iter X.env x = pure x := by intro _; rfl) :
    PS X (.Assign [.Name x py] (.ListComp elt [⟨tg, iter, ifs, 0⟩] scope pos) spos) (tS (zn X) (mAsgF i (mCompN own g mi mt ma))) := ps_mono (ps_setLc hc hN hy hyl hsw hi ok hg ht he hs) fun D σ H h => re_comp his (rs_asgF h)
end
section
variable {X : Cx} {st : Stmt} {Z : Zn} {x : ME} {i : Nat}
theorem gSetF {own : List (Str × Nat)} {gg : MG} {m : MI} {k : MT} (h : PS X st (tS Z (mAsgF i (mCompN own gg m k x)))) : PS X st (tS Z (mAsgF i (mCompN own gg m k x))) := h
theorem gStF (h : PS X st (tS Z (mAsgF i x))) : PS X st (tS Z (mAsgF i x)) := h
end
section
variable {X : Cx} {e a : Expr} {es : List Expr} {Z : Zn} {x y c : ME} {l : MA} {op : BoolOp} {pos : Pos} {t : TE} {i kd : Nat} {d : D}
theorem gOne (h : PE X (.BoolOp op [a] pos) t) : PE X (.BoolOp op [a] pos) t := h
theorem gVar (h : PE X e (tI Z (mVar i))) : PE X e (tI Z (mVar i)) := h
theorem gC (h : PE X e (tI Z (mC d))) : PE X e (tI Z (mC d)) := h
theorem gM2 (f : RV → RV → Option PV) (h : PE X e (tI Z (m2 f x y))) : PE X e (tI Z (m2 f x y)) := h
theorem gM1 (f : RV → Option PV) (h : PE X e (tI Z (m1 f x))) : PE X e (tI Z (m1 f x)) := h
theorem gCh (f g : RV → RV → Option PV) (h : PE X e (tI Z (mChain f g x y c))) : PE X e (tI Z (mChain f g x y c)) := h
theorem gT2 (f : RV → RV → Option PV) (h : PT X e (tIT Z (mTest (m2 f x y)))) : PT X e (tIT Z (mTest (m2 f x y))) := h
theorem gTCh (f g : RV → RV → Option PV) (h : PT X e (tIT Z (mTest (mChain f g x y c)))) : PT X e (tIT Z (mTest (mChain f g x y c))) := h
theorem gTru (h : PT X e (tIT Z (mTru x))) : PT X e (tIT Z (mTru x)) := h
theorem gB (f : List RV → Option PV) (h : PE X e (tI Z (mB f l))) : PE X e (tI Z (mB f l)) := h
theorem gSl {m n : MO} (h : PE X e (tI Z (mSl x m n))) : PE X e (tI Z (mSl x m n)) := h
theorem gCall {ios : List Bool} {F : Fn} (h : PE X e (tI Z (mCall ios F l))) : PE X e (tI Z (mCall ios F l)) := h
theorem gCallK {p : List Nat} {ios : List Bool} {F : Fn} (h : PE X e (tI Z (mCallK p ios F l))) : PE X e (tI Z (mCallK p ios F l)) := h
theorem gIsi {T : String} (h : PE X e (tI Z (mIsi x T))) : PE X e (tI Z (mIsi x T)) := h
theorem gIsi2 {T T' : String} (h : PE X e (tI Z (mIsi2 x T T'))) : PE X e (tI Z (mIsi2 x T T')) := h
theorem gSS (h : PE X e (tI Z (mSortedSet x))) : PE X e (tI Z (mSortedSet x)) := h
theorem gMt (f : Ob → List D → Option (PV × Ob)) (h : PE X e (tI Z (mMeth kd i f l))) : PE X e (tI Z (mMeth kd i f l)) := h
theorem gLc {own : List (Str × Nat)} {g : MG} {m : MI} {k : MT} (h : PE X e (tI Z (mCompN own g m k x))) : PE X e (tI Z (mCompN own g m k x)) := h
theorem gDc {own : List (Str × Nat)} {g : MG} {m : MI} {k : MT} (h : PE X e (tI Z (mDCompN own g m k x y))) : PE X e (tI Z (mDCompN own g m k x y)) := h
theorem gA (h : PA X (a :: es) (tIA Z (mCons x l))) : PA X (a :: es) (tIA Z (mCons x l)) := h
variable {tg : Expr} {st : Stmt} {s s' : MS} {g : MG} {is : List Nat} {v p : Expr} {n : Str} {ps : Pos}
theorem gI1 (h : PI X tg e (tII Z (mRange1 l))) : PI X tg e (tII Z (mRange1 l)) := h
theorem gI2 (h : PI X tg e (tII Z (mRange2 l))) : PI X tg e (tII Z (mRange2 l)) := h
theorem gIe (h : PI X tg e (tII Z (mEnum l))) : PI X tg e (tII Z (mEnum l)) := h
theorem gSet {own : List (Str × Nat)} {gg : MG} {m : MI} {k : MT} (h : PS X st (tS Z (mAsg (store i) (mCompN own gg m k x)))) : PS X st (tS Z (mAsg (store i) (mCompN own gg m k x))) := h
theorem gSt (h : PS X st (tS Z (mAsg (store i) x))) : PS X st (tS Z (mAsg (store i) x)) := h
theorem gAs (h : PS X st (tS Z (mAsg g x))) : PS X st (tS Z (mAsg g x)) := h
theorem gAug (f : RV → RV → Option PV) (h : PS X st (tS Z (mAug i f x))) : PS X st (tS Z (mAug i f x)) := h
theorem gSix {f : Ob → D → D → Option Ob} (h : PS X st (tS Z (mSetIx i f x y))) : PS X st (tS Z (mSetIx i f x y)) := h
theorem gFor {m : MI} (h : PS X st (tS Z (mFor g m s))) : PS X st (tS Z (mFor g m s)) := h
theorem gPar (h : PS X st (tS Z (mPar is l))) : PS X st (tS Z (mPar is l)) := h
theorem gDrop (h : PS X st (tS Z (mDrop x))) : PS X st (tS Z (mDrop x)) := h
end
end Ol
set_option Elab.async false
set_option linter.all false
set_option maxRecDepth 100000
set_option maxHeartbeats 4000000
/-! own: zip's next, whatever zip keeps of the tuple that it gave out: none, one that lives, one that does not -/
namespace PySem
open Sem (wp)
/-- what zip keeps of the tuple it gave out -/
def ZF (f0 : Value) (f : Bool) : Prop := f0 = .none ∧ f = false ∨ ∃ T : Addr, f0 = rawInt T
abbrev IsZipG (h : Heap) (z TI TO : Addr) (f0 : Value) (f : Bool) : Prop :=
  h.get? z = some { cls := .type "zip", dict := none, data := .fields #[f0, .bool f, .bool false, .ref TI, .ref TO], slots := #[] }
/-- zip at its k-th turn -/
def ZS (z TI TO i1 i2 l1 l2 : Addr) (k : Nat) (h : Heap) : Prop :=
  ∃ f0 f a b, ZF f0 f ∧ IsZipG h z TI TO f0 f ∧ IsPair h TI (.ref i1) (.ref i2) ∧ IsPair h TO a b ∧ h.IsListIter i1 l1 k ∧ h.IsListIter i2 l2 k
theorem ZS.keep {z TI TO i1 i2 l1 l2 : Addr} {k : Nat} {h h' : Heap} (q : ZS z TI TO i1 i2 l1 l2 k h) (u : ∀ b, b = z ∨ b = TI ∨ b = TO ∨ b = i1 ∨ b = i2 → ∀ o, h.get? b = some o → h'.get? b = some o) : ZS z TI TO i1 i2 l1 l2 k h' := by
  obtain ⟨f0, f, a, b, c0, c1, c2, c3, c4, c5⟩ := q
  exact ⟨f0, f, a, b, c0, u z (.inl rfl) _ c1, u TI (.inr (.inl rfl)) _ c2, u TO (.inr (.inr (.inl rfl))) _ c3, c4.at fun o y => u i1 (.inr (.inr (.inr (.inl rfl)))) o y, c5.at fun o y => u i2 (.inr (.inr (.inr (.inr rfl)))) o y⟩
section
variable {prog : Program} {w : World} {A : Around} {E : Value → Shared → Prop} {s : Shared} {z TI TO i1 i2 l1 l2 T : Addr} {k : Nat} {xs ys : Array Value} {x y a b : Value} {f : Bool}
/-- its tuple does not live any more: the record is free -/
theorem ez_dead {Q : Bool → Shared → Prop} (c1 : IsZipG s.heap z TI TO (rawInt T) f) (no : s.heap.get? T = none) (q : Q true s) : wpAny (model prog w) A (Builtin.SmallTypes.ownedTupleIsFree (.ref z)) Q E s := by
  unfold Builtin.SmallTypes.ownedTupleIsFree
  refine wpAny_bind (wpAny_field c1 rfl (x := rawInt T) rfl ?_)
  show wpAny _ _ (loadIfAlive T >>= _) _ _ _
  have live : ∀ {Q' : Option Obj → Shared → Prop}, Q' none s → wpAny (model prog w) A (loadIfAlive T) Q' E s := fun {Q'} r => by
    have r' : Q' (s.heap.get? T) s := by rw [no]; exact r
    exact fun _ _ _ => r'
  refine wpAny_bind (live ?_)
  simp only [Option.isNone_none, if_true]
  exact wpAny_pure q
theorem ez_item_dead {Q : Value → Shared → Prop} (D : ZipApart z TI TO i1 i2 l1 l2) (c1 : IsZipG s.heap z TI TO (rawInt T) f) (no : s.heap.get? T = none) (c2 : IsPair s.heap TI (.ref i1) (.ref i2)) (c3 : IsPair s.heap TO a b)
    (c4 : s.heap.IsListIter i1 l1 k) (c5 : s.heap.IsListIter i2 l2 k) (g1 : s.heap.IsList l1 xs) (g2 : s.heap.IsList l2 ys) (e1 : xs[k]? = some x) (e2 : ys[k]? = some y)
    (q : ∀ h', IsZip h' z TI TO (rawInt s.heap.objs.size) → IsPair h' TO x y → h'.IsListIter i1 l1 (k + 1) → h'.IsListIter i2 l2 (k + 1) → IsPair h' s.heap.objs.size x y → h'.objs.size = s.heap.objs.size + 1 →
      (∀ c o, c ≠ z → c ≠ TO → c ≠ i1 → c ≠ i2 → s.heap.get? c = some o → h'.get? c = some o) → Q (.ref s.heap.objs.size) { s with heap := h' }) :
    wpAny (model prog w) A (Builtin.«zip.__next__» ⟨[.ref z], []⟩) (fun fin s' => ∃ v, fin = .done (.ret v) ∧ Q v s') E s := by
  show wpAny _ _ (field (.ref z) 2 >>= _) _ _ _; refine wpAny_bind (wpAny_field c1 rfl (x := .bool false) rfl ?_)
  show wpAny _ _ (field (.ref z) 3 >>= _) _ _ _; refine wpAny_bind (wpAny_field c1 rfl (x := .ref TI) rfl (wpAny_bind (wpAny_seqItems c2 rfl ?_)))
  show wpAny _ _ (Builtin.SmallTypes.ownedTupleIsFree (.ref z) >>= _) _ _ _; refine wpAny_bind (ez_dead c1 no ?_)
  simp only [if_true]
  refine wpAny_bind (wpAny_rule (wpAny_bind (wpAny_field c1 rfl (x := .ref TO) rfl (wpAny_bind (wpAny_setField_rec c1 (by simp) fun ha za sa => ?_)))))
  have za1 : IsZipG ha z TI TO .ellipsis f := za
  refine wpAny_bind ?_
  simp only [List.zipIdx_cons, List.zipIdx_nil, List.forIn_cons, List.forIn_nil]
  refine wpAny_bind (wpAny_bind (wpAny_onRaise ?_)); show wpAny _ _ (Builtin.SmallTypes.nextOf (.ref i1) >>= _) _ _ _
  refine wpAny_bind (wpAny_nextOf_list_item (c4.extBut sa.extBut D.i1z) (g1.extBut sa.extBut D.l1z) e1 fun hb ib sb => wpAny_pure ?_)
  have tb : IsPair hb TO a b := sb.extBut _ _ D.TOi1 (sa.extBut _ _ D.TOz c3)
  refine wpAny_bind (wpAny_seqItems tb rfl (wpAny_bind (wpAny_updateSeq_pair tb fun hc tc sc => wpAny_bind (wpAny_letGo (wpAny_pure ?_)))))
  have tc1 : IsPair hc TO x b := tc
  refine wpAny_bind (wpAny_bind (wpAny_onRaise ?_)); show wpAny _ _ (Builtin.SmallTypes.nextOf (.ref i2) >>= _) _ _ _
  have c5c : hc.IsListIter i2 l2 k := ((c5.extBut sa.extBut D.i2z).extBut sb.extBut D.i12.symm).extBut sc.extBut D.TOi2.symm
  have g2c : hc.IsList l2 ys := ((g2.extBut sa.extBut D.l2z).extBut sb.extBut D.l2i1).extBut sc.extBut D.l2TO
  refine wpAny_bind (wpAny_nextOf_list_item c5c g2c e2 fun hd jd sd => wpAny_pure ?_)
  have td : IsPair hd TO x b := sd.extBut _ _ D.TOi2 tc1
  refine wpAny_bind (wpAny_seqItems td rfl (wpAny_bind (wpAny_updateSeq_pair td fun he te se => wpAny_bind (wpAny_letGo (wpAny_pure (wpAny_pure ?_))))))
  have te1 : IsPair he TO x y := te
  refine wpAny_bind (wpAny_seqItems te1 rfl (wpAny_bind (wpAny_newTuple ?_)))
  have n1 : he.objs.size = s.heap.objs.size := by rw [se.1, sd.1, sc.1, sb.1, sa.1]
  have kp : ∀ c o, c ≠ TO → c ≠ i1 → c ≠ i2 → ha.get? c = some o → he.get? c = some o := fun c o u1 u2 u3 r => se.extBut _ _ u1 (sd.extBut _ _ u3 (sc.extBut _ _ u1 (sb.extBut _ _ u2 r)))
  have ze : IsZipG he z TI TO .ellipsis f := kp _ _ D.TOz.symm D.i1z.symm D.i2z.symm za1
  have ie : he.IsListIter i1 l1 (k + 1) := ((ib.extBut sc.extBut D.TOi1.symm).extBut sd.extBut D.i12).extBut se.extBut D.TOi1.symm
  have je : he.IsListIter i2 l2 (k + 1) := jd.extBut se.extBut D.TOi2.symm
  have lt : z < he.objs.size := Heap.lt_size ze
  show wpAny _ _ (Builtin.SmallTypes.ownedTupleHandOut (.ref z) (.ref he.objs.size) >>= _) _ _ _
  refine wpAny_bind ?_
  unfold Builtin.SmallTypes.ownedTupleHandOut
  have zf : IsZipG (he.push { cls := .type "tuple", data := .seq #[x, y] }) z TI TO .ellipsis f := Heap.get?_push_of_some _ ze
  refine wpAny_bind (wpAny_setField_rec zf (by simp) fun hg zg sg => ?_)
  have zg1 : IsZipG hg z TI TO (rawInt he.objs.size) f := zg
  refine wpAny_setField_rec zg1 (by simp) fun hh zh sh => wpAny_pure ⟨_, rfl, ?_⟩
  have zh1 : IsZip hh z TI TO (rawInt he.objs.size) := zh
  have up : ∀ c o, c ≠ z → he.get? c = some o → hh.get? c = some o := fun c o u r => sh.extBut _ _ u (sg.extBut _ _ u (Heap.get?_push_of_some _ r))
  have th : IsPair hh he.objs.size x y := sh.extBut _ _ (Nat.ne_of_gt lt) (sg.extBut _ _ (Nat.ne_of_gt lt) (Heap.get?_push_size _ rfl))
  have n2 : hh.objs.size = he.objs.size + 1 := by rw [sh.1, sg.1, Heap.size_push]
  rw [n1] at zh1 th n2
  show Q (.ref he.objs.size) _
  rw [n1]
  exact q hh zh1 (up _ _ D.TOz te1) (ie.at fun o r => up _ o D.i1z r) (je.at fun o r => up _ o D.i2z r) th n2 fun c o u1 u2 u3 u4 r => up c o u1 (kp c o u2 u3 u4 (sa.extBut _ _ u1 r))
theorem ez_end_dead {Q : Fin → Shared → Prop} (hh : A.handled = none) (D : ZipApart z TI TO i1 i2 l1 l2) (c1 : IsZipG s.heap z TI TO (rawInt T) f) (no : s.heap.get? T = none) (c2 : IsPair s.heap TI (.ref i1) (.ref i2)) (c3 : IsPair s.heap TO a b)
    (c4 : s.heap.IsListIter i1 l1 k) (c5 : s.heap.IsListIter i2 l2 k) (g1 : s.heap.IsList l1 xs) (g2 : s.heap.IsList l2 ys) (e0 : xs[k]? = none ∨ ys[k]? = none)
    (q : ∀ h' e, (∀ c o, c ≠ z → c ≠ TO → c ≠ i1 → c ≠ i2 → s.heap.get? c = some o → h'.get? c = some o) → (∃ o, h'.get? e = some o ∧ o.cls = .type "StopIteration") → E (.ref e) { s with heap := h' }) :
    wpAny (model prog w) A (Builtin.«zip.__next__» ⟨[.ref z], []⟩) Q E s := by
  show wpAny _ _ (field (.ref z) 2 >>= _) _ _ _; refine wpAny_bind (wpAny_field c1 rfl (x := .bool false) rfl ?_)
  show wpAny _ _ (field (.ref z) 3 >>= _) _ _ _; refine wpAny_bind (wpAny_field c1 rfl (x := .ref TI) rfl (wpAny_bind (wpAny_seqItems c2 rfl ?_)))
  show wpAny _ _ (Builtin.SmallTypes.ownedTupleIsFree (.ref z) >>= _) _ _ _; refine wpAny_bind (ez_dead c1 no ?_)
  simp only [if_true]
  refine wpAny_bind (wpAny_rule (wpAny_bind (wpAny_field c1 rfl (x := .ref TO) rfl (wpAny_bind (wpAny_setField_rec c1 (by simp) fun ha za sa => ?_)))))
  have za1 : IsZipG ha z TI TO .ellipsis f := za
  refine wpAny_bind ?_
  simp only [List.zipIdx_cons, List.zipIdx_nil, List.forIn_cons, List.forIn_nil]
  refine wpAny_bind (wpAny_bind (wpAny_onRaise ?_)); show wpAny _ _ (Builtin.SmallTypes.nextOf (.ref i1) >>= _) _ _ _
  have out : ∀ (h2 : Heap) (e : Addr), (∀ c o, c ≠ TO → c ≠ i1 → c ≠ i2 → ha.get? c = some o → h2.get? c = some o) → (∃ o, h2.get? e = some o ∧ o.cls = .type "StopIteration") →
      wpAny (model prog w) A (setField (.ref z) 0 .none) (fun _ s' => E (.ref e) s') E { s with heap := h2 } := fun h2 e kp ⟨o, o1, o2⟩ => by
    have z2 : IsZipG h2 z TI TO .ellipsis f := kp _ _ D.TOz.symm D.i1z.symm D.i2z.symm za1
    have ne : e ≠ z := fun r => by
      subst r
      rw [z2] at o1
      cases o1
      simp at o2
    exact wpAny_setField_rec z2 (by simp) fun h3 _ s3 => q h3 e (fun c o u1 u2 u3 u4 r => s3.extBut _ _ u1 (kp c o u2 u3 u4 (sa.extBut _ _ u1 r))) ⟨o, s3.extBut _ _ ne o1, o2⟩
  cases e1 : xs[k]? with
  | none =>
    exact wpAny_bind (wpAny_nextOf_list_end hh (c4.extBut sa.extBut D.i1z) (g1.extBut sa.extBut D.l1z) e1 fun h2 e sb r => out h2 e (fun c o _ u2 _ r => sb _ _ u2 r) r)
  | some x =>
    have e2 : ys[k]? = none := e0.resolve_left (by rw [e1]; simp)
    refine wpAny_bind (wpAny_nextOf_list_item (c4.extBut sa.extBut D.i1z) (g1.extBut sa.extBut D.l1z) e1 fun hb ib sb => wpAny_pure ?_)
    have tb : IsPair hb TO a b := sb.extBut _ _ D.TOi1 (sa.extBut _ _ D.TOz c3)
    refine wpAny_bind (wpAny_seqItems tb rfl (wpAny_bind (wpAny_updateSeq_pair tb fun hc tc sc => wpAny_bind (wpAny_letGo (wpAny_pure ?_)))))
    refine wpAny_bind (wpAny_bind (wpAny_onRaise ?_)); show wpAny _ _ (Builtin.SmallTypes.nextOf (.ref i2) >>= _) _ _ _
    have c5c : hc.IsListIter i2 l2 k := ((c5.extBut sa.extBut D.i2z).extBut sb.extBut D.i12.symm).extBut sc.extBut D.TOi2.symm
    have g2c : hc.IsList l2 ys := ((g2.extBut sa.extBut D.l2z).extBut sb.extBut D.l2i1).extBut sc.extBut D.l2TO
    exact wpAny_bind (wpAny_nextOf_list_end hh c5c g2c e2 fun h2 e sd r => out h2 e (fun c o u1 u2 u3 r => sd _ _ u3 (sc.extBut _ _ u1 (sb.extBut _ _ u2 r))) r)
end
end PySem
set_option Elab.async false
set_option linter.all false
set_option maxRecDepth 100000
set_option maxHeartbeats 4000000
namespace PySem
open Sem (wp)
section
variable {prog : Program} {w : World} {A : Around} {E : Value → Shared → Prop} {s : Shared} {z TI TO i1 i2 l1 l2 e : Addr} {k : Nat} {xs ys : Array Value} {x y : Value}
theorem ez_nextOf {Q : Value → Shared → Prop} (D : ZipApart z TI TO i1 i2 l1 l2) (q : ZS z TI TO i1 i2 l1 l2 k s.heap) (g1 : s.heap.IsList l1 xs) (g2 : s.heap.IsList l2 ys) (e1 : xs[k]? = some x) (e2 : ys[k]? = some y)
    (hQ : ∀ h', ZS z TI TO i1 i2 l1 l2 (k + 1) h' → IsPair h' s.heap.objs.size x y → h'.objs.size = s.heap.objs.size + 1 →
      (∀ c o, c ≠ z → c ≠ TO → c ≠ i1 → c ≠ i2 → s.heap.get? c = some o → h'.get? c = some o) → Q (.ref s.heap.objs.size) { s with heap := h' }) :
    wpAny (model prog w) A (Builtin.SmallTypes.nextOf (.ref z)) Q E s := by
  obtain ⟨f0, f, a, b, c0, c1, c2, c3, c4, c5⟩ := q
  have ty : s.TypeIs (.ref z) "zip" := ⟨_, c1, rfl⟩
  unfold Builtin.SmallTypes.nextOf
  refine wpAny_bind (wpAny_callSpecial?_slot (name := Str.ofString "__next__") ty F.slot_zip_next (wpAny_call_entry F.slot_zip_next ty F.entry_zip_next ?_ (F.args_zip_next_1 _)))
  have free : ∀ h', IsZip h' z TI TO (rawInt s.heap.objs.size) → IsPair h' TO x y → h'.IsListIter i1 l1 (k + 1) → h'.IsListIter i2 l2 (k + 1) → IsPair h' s.heap.objs.size x y → h'.objs.size = s.heap.objs.size + 1 →
      (∀ c o, c ≠ z → c ≠ TO → c ≠ i1 → c ≠ i2 → s.heap.get? c = some o → h'.get? c = some o) → Q (.ref s.heap.objs.size) { s with heap := h' } :=
    fun h' u1 u2 u3 u4 u5 u6 u7 => hQ h' ⟨_, _, _, _, .inr ⟨_, rfl⟩, u1, u7 TI _ D.TIz D.TITO D.TIi1 D.TIi2 c2, u2, u3, u4⟩ u5 u6 u7
  rcases c0 with ⟨rfl, rfl⟩ | ⟨T, rfl⟩
  · exact zip_next_item D c1 c2 c3 c4 c5 g1 g2 e1 e2 fun h' u1 u2 u3 u4 u5 u6 u7 => wpAny_pure (free h' u1 u2 u3 u4 u5 u6 u7)
  · cases no : s.heap.get? T with
    | none => exact ez_item_dead D c1 no c2 c3 c4 c5 g1 g2 e1 e2 fun h' u1 u2 u3 u4 u5 u6 u7 => wpAny_pure (free h' u1 u2 u3 u4 u5 u6 u7)
    | some o => exact zip_next_item_held D c1 no c2 c4 c5 g1 g2 e1 e2 fun h' u1 u3 u4 u5 u6 u7 => wpAny_pure (hQ h' ⟨_, _, _, _, .inr ⟨_, rfl⟩, u1, u7 _ _ D.TIz D.TIi1 D.TIi2 c2, u7 _ _ D.TOz D.TOi1 D.TOi2 c3, u3, u4⟩ u5 u6 fun c o m1 _ m2 m3 r => u7 c o m1 m2 m3 r)
theorem ez_nextOf_end {Q : Value → Shared → Prop} (hh : A.handled = none) (D : ZipApart z TI TO i1 i2 l1 l2) (q : ZS z TI TO i1 i2 l1 l2 k s.heap) (g1 : s.heap.IsList l1 xs) (g2 : s.heap.IsList l2 ys) (e0 : xs[k]? = none ∨ ys[k]? = none)
    (hE : ∀ h' e, (∀ c o, c ≠ z → c ≠ TO → c ≠ i1 → c ≠ i2 → s.heap.get? c = some o → h'.get? c = some o) → (∃ o, h'.get? e = some o ∧ o.cls = .type "StopIteration") → E (.ref e) { s with heap := h' }) :
    wpAny (model prog w) A (Builtin.SmallTypes.nextOf (.ref z)) Q E s := by
  obtain ⟨f0, f, a, b, c0, c1, c2, c3, c4, c5⟩ := q
  have ty : s.TypeIs (.ref z) "zip" := ⟨_, c1, rfl⟩
  unfold Builtin.SmallTypes.nextOf
  refine wpAny_bind (wpAny_callSpecial?_slot (name := Str.ofString "__next__") ty F.slot_zip_next (wpAny_call_entry F.slot_zip_next ty F.entry_zip_next ?_ (F.args_zip_next_1 _)))
  rcases c0 with ⟨rfl, rfl⟩ | ⟨T, rfl⟩
  · exact zip_next_end hh D c1 c2 c3 c4 c5 g1 g2 e0 hE
  · cases no : s.heap.get? T with
    | none => exact ez_end_dead hh D c1 no c2 c3 c4 c5 g1 g2 e0 hE
    | some o => exact zip_next_end_held hh D c1 no c2 c4 c5 g1 g2 e0 fun h' e u r => hE h' e (fun c o m1 _ m2 m3 r => u c o m1 m2 m3 r) r
end
end PySem
set_option Elab.async false
set_option linter.all false
set_option maxRecDepth 100000
set_option maxHeartbeats 4000000
namespace PySem
open Sem (wp)
section
variable {prog : Program} {w : World} {A : Around} {E : Value → Shared → Prop} {s : Shared} {z TI TO i1 i2 l1 l2 e : Addr} {k : Nat} {xs ys : Array Value} {x y : Value} {c : Int} {old : Value}
structure EzNe (e z TI TO i1 i2 : Addr) : Prop where
  z : e ≠ z
  TI : e ≠ TI
  TO : e ≠ TO
  i1 : e ≠ i1
  i2 : e ≠ i2
theorem EzNe.of (n : EzNe e z TI TO i1 i2) {b : Addr} (h : b = z ∨ b = TI ∨ b = TO ∨ b = i1 ∨ b = i2) : b ≠ e := by
  intro q
  subst q
  rcases h with h | h | h | h | h
  · exact n.z h
  · exact n.TI h
  · exact n.TO h
  · exact n.i1 h
  · exact n.i2 h
theorem ez_enum_next {Q : Value → Shared → Prop} (D : ZipApart z TI TO i1 i2 l1 l2) (n : EzNe e z TI TO i1 i2) (he : IsEnum s.heap e z c old) (q : ZS z TI TO i1 i2 l1 l2 k s.heap) (g1 : s.heap.IsList l1 xs) (g2 : s.heap.IsList l2 ys) (e1 : xs[k]? = some x) (e2 : ys[k]? = some y)
    (hQ : ∀ h', IsEnumOut h' e z (c + 1) (.ref s.heap.objs.size) (s.heap.objs.size + 1) → ZS z TI TO i1 i2 l1 l2 (k + 1) h' → IsPair h' s.heap.objs.size x y →
      h'.get? (s.heap.objs.size + 1) = some { cls := .type "tuple", data := .seq #[.int c s.toks, .ref s.heap.objs.size] } → h'.objs.size = s.heap.objs.size + 2 →
      (∀ b o, b ≠ e → b ≠ z → b ≠ TO → b ≠ i1 → b ≠ i2 → s.heap.get? b = some o → h'.get? b = some o) → Q (.ref (s.heap.objs.size + 1)) { s with heap := h', toks := s.toks + 1 }) :
    wpAny (model prog w) A (Builtin.«enumerate.__next__» ⟨[.ref e], []⟩) (fun fin s' => ∃ v, fin = .done (.ret v) ∧ Q v s') E s := by
  obtain ⟨hp, gg, dd, tk, os⟩ := s
  show wpAny _ _ (field (.ref e) 2 >>= _) _ _ _
  refine wpAny_bind (wpAny_field he rfl (x := .ref z) rfl (wpAny_bind (ez_nextOf D q g1 g2 e1 e2 fun ha qa pa za ka => ?_)))
  have ea : IsEnum ha e z c old := ka e _ n.z n.TO n.i1 n.i2 he
  show wpAny _ _ (field (.ref e) 3 >>= _) _ _ ⟨ha, gg, dd, tk, os⟩
  refine wpAny_bind (wpAny_field ea rfl (x := rawInt c) rfl ?_)
  show wpAny _ _ (field (.ref e) 4 >>= _) _ _ ⟨ha, gg, dd, tk, os⟩
  refine wpAny_bind (wpAny_field ea rfl (x := .none) rfl ?_)
  show wpAny _ _ (mkInt c >>= _) _ _ ⟨ha, gg, dd, tk, os⟩
  refine wpAny_bind (wpAny_mkInt ?_)
  show wpAny _ _ (setField (.ref e) 3 (rawInt (c + 1)) >>= _) _ _ ⟨ha, gg, dd, tk + 1, os⟩
  refine wpAny_bind (wpAny_setField_rec ea (by simp) fun hb eb sb => ?_)
  have eb1 : IsEnum hb e z (c + 1) old := eb
  have sb1 : Heap.SameBut e ha hb := sb
  show wpAny _ _ (setField (.ref e) 4 .none >>= _) _ _ ⟨hb, gg, dd, tk + 1, os⟩
  refine wpAny_bind (wpAny_setField_rec eb1 (by simp) fun hc ec sc => ?_)
  have ec1 : IsEnum hc e z (c + 1) old := ec
  have sc1 : Heap.SameBut e hb hc := sc
  have zc : hc.objs.size = hp.objs.size + 1 := by rw [sc1.1, sb1.1]; exact za
  show wpAny _ _ (newTuple [.int c tk, .ref hp.objs.size] >>= _) _ _ ⟨hc, gg, dd, tk + 1, os⟩
  refine wpAny_bind (wpAny_newTuple ?_)
  have le : e < hp.objs.size := Heap.lt_size he
  generalize hd0 : hc.push { cls := .type "tuple", data := .seq #[.int c tk, .ref hp.objs.size] } = hd
  have up : ∀ b o, b ≠ e → ha.get? b = some o → hd.get? b = some o := fun b o ne r => by
    rw [← hd0]
    exact Heap.get?_push_of_some _ (sc1.extBut b o ne (sb1.extBut b o ne r))
  have ed : IsEnum hd e z (c + 1) old := by rw [← hd0]; exact Heap.get?_push_of_some _ ec1
  have td : hd.get? (hp.objs.size + 1) = some { cls := .type "tuple", data := .seq #[.int c tk, .ref hp.objs.size] } := by rw [← hd0, ← zc]; exact Heap.get?_push_size _ rfl
  have zd : hd.objs.size = hp.objs.size + 2 := by rw [← hd0, Heap.size_push, zc]
  show wpAny _ _ (Builtin.SmallTypes.ownedTupleIsFree (.ref e) >>= _) _ _ ⟨hd, gg, dd, tk + 1, os⟩
  rw [zc]
  refine wpAny_bind ?_
  unfold Builtin.SmallTypes.ownedTupleIsFree
  refine wpAny_bind (wpAny_field ed rfl (x := .none) rfl (wpAny_pure ?_))
  simp only [if_true]
  refine wpAny_bind (wpAny_rule (wpAny_bind (wpAny_field ed rfl (x := old) rfl (wpAny_bind (wpAny_setField_rec ed (by simp) fun hf ef sf => ?_)))))
  have ef1 : IsEnum hf e z (c + 1) (.ref hp.objs.size) := ef
  have sf1 : Heap.SameBut e hd hf := sf
  show wpAny _ _ (Builtin.SmallTypes.ownedTupleHandOut (.ref e) (.ref (hp.objs.size + 1)) >>= _) _ _ ⟨hf, gg, dd, tk + 1, os⟩
  refine wpAny_bind ?_
  unfold Builtin.SmallTypes.ownedTupleHandOut
  refine wpAny_bind (wpAny_setField_rec ef1 (by simp) fun hg eg sg => ?_)
  have eg1 : IsEnumOut hg e z (c + 1) (.ref hp.objs.size) (hp.objs.size + 1) := eg
  have sg1 : Heap.SameBut e hf hg := sg
  refine wpAny_setField_rec eg1 (by simp) fun hi ei si => ?_
  have ei1 : IsEnumOut hi e z (c + 1) (.ref hp.objs.size) (hp.objs.size + 1) := ei
  have si1 : Heap.SameBut e hg hi := si
  have up2 : ∀ b o, b ≠ e → hd.get? b = some o → hi.get? b = some o := fun b o ne r => si1.extBut b o ne (sg1.extBut b o ne (sf1.extBut b o ne r))
  refine wpAny_bind (wpAny_letGo (wpAny_pure ⟨_, rfl, hQ hi ei1 (qa.keep fun b m o r => up2 b o (n.of m) (up b o (n.of m) r)) ?_ ?_ ?_ ?_⟩))
  · exact up2 _ _ (Nat.ne_of_gt le) (up _ _ (Nat.ne_of_gt le) pa)
  · exact up2 _ _ (Nat.ne_of_gt (Nat.lt_succ_of_lt le)) td
  · rw [si1.1, sg1.1, sf1.1, zd]
  · exact fun b o n1 n2 n3 n4 n5 r => up2 b o n1 (up b o n1 (ka b o n2 n3 n4 n5 r))
theorem ez_pyNext {Q : Option Value → Shared → Prop} (D : ZipApart z TI TO i1 i2 l1 l2) (n : EzNe e z TI TO i1 i2) (he : IsEnum s.heap e z c old) (q : ZS z TI TO i1 i2 l1 l2 k s.heap) (g1 : s.heap.IsList l1 xs) (g2 : s.heap.IsList l2 ys) (e1 : xs[k]? = some x) (e2 : ys[k]? = some y)
    (hQ : ∀ h', IsEnumOut h' e z (c + 1) (.ref s.heap.objs.size) (s.heap.objs.size + 1) → ZS z TI TO i1 i2 l1 l2 (k + 1) h' → IsPair h' s.heap.objs.size x y →
      h'.get? (s.heap.objs.size + 1) = some { cls := .type "tuple", data := .seq #[.int c s.toks, .ref s.heap.objs.size] } → h'.objs.size = s.heap.objs.size + 2 →
      (∀ b o, b ≠ e → b ≠ z → b ≠ TO → b ≠ i1 → b ≠ i2 → s.heap.get? b = some o → h'.get? b = some o) → Q (some (.ref (s.heap.objs.size + 1))) { s with heap := h', toks := s.toks + 1 }) :
    wpAny (model prog w) A (pyNext (.ref e)) Q E s := by
  have ty : s.TypeIs (.ref e) "enumerate" := ⟨_, he, rfl⟩
  unfold pyNext
  exact wpAny_bind (wpAny_attempt (wpAny_callSpecial?_slot (name := Str.ofString "__next__") ty F.slot_enumerate_next (wpAny_call_entry F.slot_enumerate_next ty F.entry_enumerate_next
    (ez_enum_next D n he q g1 g2 e1 e2 fun h' u1 u2 u3 u4 u5 u6 => wpAny_pure (hQ h' u1 u2 u3 u4 u5 u6)) (F.args_enumerate_next_1 _))))
theorem ez_pyNext_end {Q : Option Value → Shared → Prop} (hh : A.handled = none) (D : ZipApart z TI TO i1 i2 l1 l2) (he : IsEnum s.heap e z c old) (q : ZS z TI TO i1 i2 l1 l2 k s.heap) (g1 : s.heap.IsList l1 xs) (g2 : s.heap.IsList l2 ys) (e0 : xs[k]? = none ∨ ys[k]? = none)
    (hQ : ∀ h', (∀ b o, b ≠ z → b ≠ TO → b ≠ i1 → b ≠ i2 → s.heap.get? b = some o → h'.get? b = some o) → Q none { s with heap := h' }) : wpAny (model prog w) A (pyNext (.ref e)) Q E s := by
  have ty : s.TypeIs (.ref e) "enumerate" := ⟨_, he, rfl⟩
  unfold pyNext
  refine wpAny_bind (wpAny_attempt (wpAny_callSpecial?_slot (name := Str.ofString "__next__") ty F.slot_enumerate_next (wpAny_call_entry F.slot_enumerate_next ty F.entry_enumerate_next ?_ (F.args_enumerate_next_1 _))))
  show wpAny _ _ (field (.ref e) 2 >>= _) _ _ _
  refine wpAny_bind (wpAny_field he rfl (x := .ref z) rfl (wpAny_bind (ez_nextOf_end hh D q g1 g2 e0 fun h' b k ⟨o, r1, r2⟩ => ?_)))
  exact wpAny_bind (wpAny_isInstance (T := "StopIteration") (b := true) ⟨o, r1, r2⟩ isSubtype_stop (wpAny_pure (hQ _ k)))
/-- enumerate(z), z a zip: one new record, over z itself -/
theorem ez_meets {z TI TO : Addr} {f0 : Value} :
    Meets (Builtin.«enumerate.__new__» ⟨[.type "enumerate", .ref z], []⟩) (fun _ R s => IsZip s.heap z TI TO f0 ∧ R (.ok (.ret (.ref s.heap.objs.size))) { s with heap := s.heap.push { cls := .type "enumerate", data := .fields #[.none, .bool false, .ref z, rawInt 0, .none, .none] } }) :=
  .of_wp fun prog w A R s h => by
    obtain ⟨hp, g, d, tk, os⟩ := s
    obtain ⟨zz, h⟩ := h
    have hsub := sub_enumerate
    have it : ∀ {A' : Around} {E : Value → Shared → Prop} {Q : Value → Shared → Prop}, Q (.ref z) ⟨hp, g, d, tk, os⟩ → wpAny (model prog w) A' (pyIter (.ref z)) Q E ⟨hp, g, d, tk, os⟩ := fun q => wpAny_pyIter_zip zz q
    wp_walk using it
    refine wpAny_stack_any fun st => wpAny_pure ?_
    split
    · rename_i c _ _ _ _ _
      cases (c == Value.type "enumerate") <;> (wp_walk using it; exact ⟨_, rfl, h⟩)
    · wp_walk using it
      exact ⟨_, rfl, h⟩
theorem ez_call {z TI TO : Addr} {f0 : Value} {Q : Value → Shared → Prop} (zz : IsZip s.heap z TI TO f0)
    (h : ∀ h', IsEnum h' s.heap.objs.size z 0 .none → h'.objs.size = s.heap.objs.size + 1 → (∀ b o, s.heap.get? b = some o → h'.get? b = some o) → Q (.ref s.heap.objs.size) { s with heap := h' }) :
    wpAny (model prog w) A (call (.type "enumerate") [.ref z]) Q E s := by
  refine callType_new F.called_enumerate (by decide) (F.typeCall_enumerate_1 _) (F.newCall_enumerate_1 _) (fun obj => F.args_object_init_2 obj _) F.entry_enumerate_new ez_meets ⟨zz, ?_⟩
  have he : IsEnum (s.heap.push { cls := .type "enumerate", data := .fields #[.none, .bool false, .ref z, rawInt 0, .none, .none] }) s.heap.objs.size z 0 .none := Heap.get?_push_size _ rfl
  exact ⟨⟨_, he, rfl⟩, h _ he (Heap.size_push ..) fun b o r => Heap.get?_push_of_some _ r⟩
end
end PySem
set_option Elab.async false
set_option linter.all false
set_option maxRecDepth 100000
set_option maxHeartbeats 4000000
namespace L2
open PySem PySem.Spec PyProof.Rows
section
variable {X : Cx} {pins : List (Addr × Obj)} {σ : St} {H : Hp} {s : Shared} {h' : Heap}
/-- records of ours have turned and two new objects are laid -/
theorem Inv.turned2 {t' : Nat} {ch : List Addr} {T U : Addr} {ob pb : HO} (I : Inv X pins σ H s) (k : ∀ b o, b ∉ ch → s.heap.get? b = some o → h'.get? b = some o) (hf : ∀ b ∈ ch, FpOk X pins H b) (hT : s.heap.objs.size ≤ T) (hU : s.heap.objs.size ≤ U)
    (n1 : ObjOk X.prog X.w (upd (upd H T ob) U pb) h' T ob) (n2 : ObjOk X.prog X.w (upd (upd H T ob) U pb) h' U pb) : Inv X pins σ (upd (upd H T ob) U pb) { s with heap := h', toks := t' } := by
  have hn : H T = none := I.hok.fresh hT
  have hm : H U = none := I.hok.fresh hU
  have ap : ∀ b u, H b = some u → b ∉ ch := fun b u q m => by
    rw [(hf b m).1] at q
    cases q
  have old : ∀ b u, H b = some u → (upd (upd H T ob) U pb) b = some u := fun b u q => by
    rw [upd_ne (ne_of_none q hm), upd_ne (ne_of_none q hn)]
    exact q
  refine I.step (g' := s.gens) (d' := s.drawn) (ch := ch) (fun b m => let r := hf b m; ⟨r.2.2.2.1, r.2.1, r.2.2.2.2.1, r.2.2.2.2.2⟩) (fun b o _ _ m q _ => k b o m q) (fun b o _ _ m q _ => ⟨o.slots, k b o m q⟩)
    (fun b o _ q m => ?_) (fun b o m q => ⟨o, k b o m q⟩) (fun b l q => old b _ q) (fun b o u q => old b _ q) (fun b ps q => ⟨#[], ?_⟩) (fun m q => ?_) (fun b u q => ?_) I.bare
  · have lt := Heap.lt_size q
    rw [upd_ne (Nat.ne_of_lt (Nat.lt_of_lt_of_le lt hU)), upd_ne (Nat.ne_of_lt (Nat.lt_of_lt_of_le lt hT))]
    exact m
  · rw [old b _ q]
    simp
  · obtain ⟨o, es, ep, ho, r⟩ := q
    exact ⟨o, es, ep, k _ o (fun m => (hf _ m).2.1 rfl) ho, r⟩
  · by_cases b2 : b = U
    · subst b2
      rw [upd_same] at q
      cases q
      exact n2
    · rw [upd_ne b2] at q
      by_cases b1 : b = T
      · subst b1
        rw [upd_same] at q
        cases q
        exact n1
      · rw [upd_ne b1] at q
        refine (I.hok b u q).stay (fun c v m r => k c v ?_ r) (fun c r => old c _ r) fun c l r => old c _ r
        rcases m with m | m
        · rw [m]
          exact ap b u q
        · exact ap c _ m
end
/-- enumerate(zip(a, b)): the lists as they stand at each turn -/
def Itez (K : PySem.W.Frag) (a b : Addr) : It :=
  ⟨fun i H => ∃ (xs ys : List V) (x y : V), SqL K H a xs ∧ SqL K H b ys ∧ xs[i]? = some x ∧ ys[i]? = some y,
    fun i H v H' => ∃ T U x y, v = .ref U ∧ H T = none ∧ H U = none ∧ T ≠ U ∧ H' = upd (upd H T (.tup [x, y])) U (.tup [.int (i : Nat), .ref T]) ∧ (∀ xs, SqL K H a xs → xs[i]? = some x) ∧ ∀ ys, SqL K H b ys → ys[i]? = some y,
    fun i H => ∃ xs ys : List V, SqL K H a xs ∧ SqL K H b ys ∧ (xs.length ≤ i ∨ ys.length ≤ i)⟩
theorem turn_ez {P : Program} {w : World} {K : PySem.W.Frag} {elts : List Expr} {kk : Nat} {tpos : Pos} {a b e z TI TO i1 i2 : Addr} (D : ZipApart z TI TO i1 i2 a b) (n : EzNe e z TI TO i1 i2) :
    Turn P w K (.Tuple elts kk tpos) (Itez K a b) [e, z, TI, TO, i1, i2] e (fun i h => (∃ old, IsEnum h e z ((i : Nat) : Int) old) ∧ ZS z TI TO i1 i2 a b i h) where
  mem := by simp
  obj := fun i h st c hc => by
    obtain ⟨⟨old, he⟩, f0, f, p, q, c0, c1, c2, c3, ⟨o1, d1, _, d2⟩, ⟨o2, d3, _, d4⟩⟩ := st
    simp only [List.mem_cons, List.not_mem_nil, or_false] at hc
    rcases hc with r | r | r | r | r | r
    · rw [r]; exact ⟨_, he, fun v m => nomatch m⟩
    · rw [r]; exact ⟨_, c1, fun v m => nomatch m⟩
    · rw [r]; exact ⟨_, c2, fun v m => nomatch m⟩
    · rw [r]; exact ⟨_, c3, fun v m => nomatch m⟩
    · rw [r]; exact ⟨o1, d1, fun v m => by rw [d2] at m; cases m⟩
    · rw [r]; exact ⟨o2, d3, fun v m => by rw [d4] at m; cases m⟩
  keep := fun i h h' st k => by
    obtain ⟨⟨old, he⟩, q⟩ := st
    refine ⟨⟨old, k e (by simp) _ he⟩, q.keep fun c m => k c ?_⟩
    simp only [List.mem_cons, List.not_mem_nil, or_false]
    exact .inr m
  item := by
    intro X hP hw hK hc i pins s σ H E I hf st hg
    subst hP hw hK
    obtain ⟨⟨old, he⟩, q⟩ := st
    obtain ⟨xs, ys, x, y, qx, qy, hx, hy⟩ := hg
    obtain ⟨its, rv, p, _⟩ := I.list qx
    obtain ⟨its2, rv2, p2, _⟩ := I.list qy
    obtain ⟨u, hu, ru⟩ := rv.get hx
    obtain ⟨u2, hu2, ru2⟩ := rv2.get hy
    have le : e < s.heap.objs.size := Heap.lt_size he
    refine ez_pyNext D n he q p.isList p2.isList (x := u) (y := u2) (by simpa using hu) (by simpa using hu2) fun h1 v1 v2 v3 v4 v5 v6 => ?_
    refine ⟨_, rfl, wpAny_letOwnedTupleGo_enum (s := { s with heap := h1, toks := s.toks + 1 }) v1 fun h2 m1 m2 => ?_⟩
    have t1 : h2.get? s.heap.objs.size = some { cls := .type "tuple", data := .seq #[u, u2] } := (m2.2 _ (Nat.ne_of_gt le)).trans v3
    have t2 : h2.get? (s.heap.objs.size + 1) = some { cls := .type "tuple", data := .seq #[.int i s.toks, .ref s.heap.objs.size] } := (m2.2 _ (Nat.ne_of_gt (Nat.lt_succ_of_lt le))).trans v4
    have I1 : Inv X pins σ (upd (upd H s.heap.objs.size (.tup [x, y])) (s.heap.objs.size + 1) (.tup [.int (i : Nat), .ref s.heap.objs.size])) { s with heap := h2, toks := s.toks + 1 } :=
      I.turned2 (ch := [e, z, TI, TO, i1, i2]) (fun c o m r => by
        simp only [List.mem_cons, List.not_mem_nil, or_false, not_or] at m
        exact (m2.2 c m.1).trans (v6 c o m.1 m.2.1 m.2.2.2.1 m.2.2.2.2.1 m.2.2.2.2.2 r)) hf (Nat.le_refl _) (Nat.le_succ _)
        ⟨by show 2 ≤ sizeLine; decide, [u, u2], .cons ru (.cons ru2 .nil), ⟨_, t1, rfl, _, rfl⟩⟩
        ⟨by show 2 ≤ sizeLine; decide, [.int i s.toks, .ref s.heap.objs.size], .cons ⟨_, rfl⟩ (.cons rfl .nil), ⟨_, t2, rfl, _, rfl⟩⟩
    refine ⟨.ref (s.heap.objs.size + 1), _, I1, rfl, ⟨_, _, x, y, rfl, I.hok.fresh (Nat.le_refl _), I.hok.fresh (Nat.le_succ _), Nat.ne_of_lt (Nat.lt_succ_self _), rfl, fun l m => by rw [I.list_inj m qx]; exact hx, fun l m => by rw [I.list_inj m qy]; exact hy⟩, ⟨⟨.ref s.heap.objs.size, ?_⟩, v2.keep fun c m o r => (m2.2 c (n.of m)).trans r⟩, fun c m => ?_⟩
    · have z1 : ((i + 1 : Nat) : Int) = (i : Int) + 1 := by omega
      rw [z1]
      exact m1
    · have lt : c < s.heap.objs.size := by
        obtain ⟨f0, f, a0, b0, c0, c1, c2, c3, ⟨o1, d1, _⟩, ⟨o2, d2, _⟩⟩ := q
        simp only [List.mem_cons, List.not_mem_nil, or_false] at m
        rcases m with r | r | r | r | r | r
        · rw [r]; exact le
        · rw [r]; exact Heap.lt_size c1
        · rw [r]; exact Heap.lt_size c2
        · rw [r]; exact Heap.lt_size c3
        · rw [r]; exact Heap.lt_size d1
        · rw [r]; exact Heap.lt_size d2
      rw [upd_ne (Nat.ne_of_lt (Nat.lt_succ_of_lt lt)), upd_ne (Nat.ne_of_lt lt)]
      exact (hf c m).1
  done := by
    intro X hP hw hK hc i pins s σ H E I hf st hg
    subst hP hw hK
    obtain ⟨⟨old, he⟩, q⟩ := st
    obtain ⟨xs, ys, qx, qy, hend⟩ := hg
    obtain ⟨its, rv, p, _⟩ := I.list qx
    obtain ⟨its2, rv2, p2, _⟩ := I.list qy
    have m1 := rv.length
    have m2 := rv2.length
    have no : its.toArray[i]? = none ∨ its2.toArray[i]? = none := by
      rcases hend with r | r
      · exact .inl (by simp; omega)
      · exact .inr (by simp; omega)
    refine ez_pyNext_end (I.ok.hd hc) D he q p.isList p2.isList no fun h' k => ⟨rfl, I.turnedL (t' := s.toks) (ch := [e, z, TI, TO, i1, i2]) (fun c o m r => ?_) hf⟩
    simp only [List.mem_cons, List.not_mem_nil, or_false, not_or] at m
    exact k c o m.2.1 m.2.2.2.1 m.2.2.2.2.1 m.2.2.2.2.2 r
  self := fun A i s Q E st h => let ⟨⟨_, he⟩, _⟩ := st; wpAny_pyIter_enum he h
def iEz (K : PySem.W.Frag) (ta : TA) : TI := fun σ H R => ta σ H fun vs H1 => ∃ a b xs ys, vs = [.ref a, .ref b] ∧ SqL K H1 a xs ∧ SqL K H1 b ys ∧ R (Itez K a b) H1
end L2
set_option Elab.async false
set_option linter.all false
set_option maxRecDepth 100000
set_option maxHeartbeats 4000000
namespace L2
open PySem PySem.Spec PyProof.Rows
theorem pi_ez {X : Cx} {a1 a2 : Expr} {ta : TA} {p p2 pos pos2 tpos : Pos} {elts : List Expr} {kk : Nat} (hg : Gl X "enumerate") (hm : X.mg "enumerate" = none) (hg2 : Gl X "zip") (hm2 : X.mg "zip" = none) (ha : PA X [a1, a2] ta)
    (hs2 : starEach [a1, a2] X.env = (false, eval a1 X.env) :: starEach [a2] X.env := by rfl) (hpl : (backTo pos2 (starEach [a2] X.env)).any (·.1) = false := by rfl)
    (hs : starEach [.Call (.Name "zip" p2) [a1, a2] [] pos2] X.env = [(false, eval (.Call (.Name "zip" p2) [a1, a2] [] pos2) X.env)] := by rfl) :
    PI X (.Tuple elts kk tpos) (.Call (.Name "enumerate" p) [.Call (.Name "zip" p2) [a1, a2] [] pos2] [] pos) (iEz X.K ta) := by
  refine ⟨fun pins s σ H R I h => Call_ (ld_blt I hg hm boot_enumerate (PyProof.Rows.callWith_type1 ?_ hs rfl))⟩
  rw [hs]
  show wpAny _ _ (spliced ((false, eval (.Call (.Name "zip" p2) [a1, a2] [] pos2) X.env) :: [])) _ _ s
  refine Calls.spliced_cons (Call_ (ld_blt I hg2 hm2 PyProof.Rows.boot_zip (PyProof.Rows.callWith_type1 (thn (ha.run pos2 pins s σ H _ I h) fun us s1 ⟨vs, H1, I1, r1, q1⟩ => ?_) hs2 hpl)))
  obtain ⟨a, b, xs, ys, ex, qx, qy, q⟩ := q1
  subst ex
  cases r1 with
  | cons r rr =>
    cases rr with
    | cons r' rr =>
      cases rr
      cases r
      cases r'
      obtain ⟨its, rv, m1, _⟩ := I1.list qx
      obtain ⟨its2, rv2, m2, _⟩ := I1.list qy
      have la : a < s1.heap.objs.size := m1.lt
      have lb : b < s1.heap.objs.size := m2.lt
      refine call_zip_2 m1.isList m2.isList fun h' c1 c2 c3 c4 c5 zs k => Calls.spliced_nil (ez_call (s := { s1 with heap := h' }) c1 fun h2 he z2 k2 => wpAny_pyIter_enum he ?_)
      have I2 : Inv X pins σ H1 { s1 with heap := h2 } := I1.kept (t' := s1.toks) fun c o r => k2 c o (k c o r)
      have le : ∀ c : Nat, s1.heap.objs.size ≤ c → FpOk X pins H1 c := fun c m => I1.fpOk m (I1.hok.fresh m)
      generalize hN : s1.heap.objs.size = N at *
      have zs' : (h'.objs.size : Nat) = N + 5 := zs
      have hz : ZS (N + 4) (N + 2) (N + 3) N (N + 1) a b 0 h2 := ⟨.none, false, .none, .none, .inl ⟨rfl, rfl⟩, k2 _ _ c1, k2 _ _ c2, k2 _ _ c3, c4.at fun o r => k2 _ o r, c5.at fun o r => k2 _ o r⟩
      have D : ZipApart (N + 4) (N + 2) (N + 3) N (N + 1) a b := PySem.W.ktu_apart N a b la lb
      have en : EzNe (h'.objs.size) (N + 4) (N + 2) (N + 3) N (N + 1) := by
        rw [zs]
        constructor <;> exact Nat.ne_of_gt (by omega)
      refine ⟨h'.objs.size, [h'.objs.size, N + 4, N + 2, N + 3, N, N + 1], _, _, H1, rfl, I2, turn_ez D en, ⟨⟨.none, he⟩, hz⟩, fun c m => ?_, q⟩
      simp only [List.mem_cons, List.not_mem_nil, or_false] at m
      rcases m with r | r | r | r | r | r <;> (rw [r]; refine le _ ?_)
      · rw [zs]; omega
      · exact Nat.le_add_right _ _
      · exact Nat.le_add_right _ _
      · exact Nat.le_add_right _ _
      · exact Nat.le_refl _
      · exact Nat.le_add_right _ _
end L2
namespace Ol
open PySem PySem.Spec PyProof.Rows L2
variable {Z : Zn} {σ : L2.St} {H : Hp} {Hb : Hp}
def zipE : Nat → List D → List D → List D
  | i, a :: r, b :: t => .tuple [.int (i : Nat), .tuple [a, b]] :: zipE (i + 1) r t
  | _, _, _ => []
theorem zipE_len : ∀ {i : Nat} {as bs : List D}, (zipE i as bs).length = min as.length bs.length
  | _, [], _ => by simp [zipE]
  | _, _ :: _, [] => by simp [zipE]
  | i, _ :: r, _ :: t => by simp [zipE, zipE_len (as := r) (bs := t)]
theorem zipE_get : ∀ {as bs : List D} {n i : Nat} {a b : D}, as[i]? = some a → bs[i]? = some b → (zipE n as bs)[i]? = some (.tuple [.int ((n + i : Nat) : Int), .tuple [a, b]])
  | [], _, _, _, _, _, h, _ => by simp at h
  | _ :: _, [], _, _, _, _, _, h => by simp at h
  | x :: r, y :: t, n, 0, a, b, h, h2 => by simp at h h2; subst h; subst h2; rfl
  | x :: r, y :: t, n, i + 1, a, b, h, h2 => by
    have z := zipE_get (as := r) (bs := t) (n := n + 1) (i := i) (a := a) (b := b) (by simpa using h) (by simpa using h2)
    rw [show n + 1 + i = n + (i + 1) by omega] at z
    simpa [zipE] using z
@[simp] def mEnumZip (a : MA) : MI := fun env => (a env).bind fun xs => match xs.1 with
  | [.d (.list as), .d (.list bs)] => if as.any isS then none else some (zipE 0 as bs, xs.2)
  | [.d (.list as), .new (.lst bs)] => if as.any isS then none else some (zipE 0 as bs, xs.2)
  | _ => none
theorem walk_ez {K : Fg} {a b : Addr} {xs ys : List V} {n : Nat} (hn : n = min xs.length ys.length) : Walk (Itez K a b) n (fun H => SqL K H a xs ∧ SqL K H b ys) fun i H v H' =>
    ∃ T U x y, v = .ref U ∧ H T = none ∧ H U = none ∧ T ≠ U ∧ H' = upd (upd H T (.tup [x, y])) U (.tup [.int (i : Nat), .ref T]) ∧ xs[i]? = some x ∧ ys[i]? = some y := by
  subst hn
  refine ⟨fun i _ hi q => ?_, fun _ q => ⟨xs, ys, q.1, q.2, by omega⟩, fun i H v H' _ q y => ?_⟩
  · have p1 : i < xs.length := by omega
    have p2 : i < ys.length := by omega
    exact ⟨xs, ys, xs[i], ys[i], q.1, q.2, List.getElem?_eq_getElem p1, List.getElem?_eq_getElem p2⟩
  · obtain ⟨T, U, x, z, u1, u2, u3, u4, u5, u6, u7⟩ := y
    exact ⟨T, U, x, z, u1, u2, u3, u4, u5, u6 xs q.1, u7 ys q.2⟩
theorem itr_ez {xs ys : List V} {as bs : List D} {a b : Addr} (qx : SqL Z.K Hb a xs) (qy : SqL Z.K Hb b ys) (t1 : DpAll Z.K Hb xs as) (t2 : DpAll Z.K Hb ys bs) (no : as.any isS = false) : ItR Z (Itez Z.K a b) (zipE 0 as bs) Hb := by
  refine ⟨_, _, walk_ez (xs := xs) (ys := ys) (by rw [zipE_len, DpAll.length t1, DpAll.length t2]), fun H e => ⟨sql_ex e qx, sql_ex e qy⟩, fun i Hb1 H x H' hi e1 e2 y => ?_⟩
  obtain ⟨T, U, u, v, rfl, hT, hU, ne, rfl, hu, hv⟩ := y
  rw [zipE_len] at hi
  have l1 : i < as.length := by omega
  have l2 : i < bs.length := by omega
  have d1 := List.getElem?_eq_getElem l1
  have d2 := List.getElem?_eq_getElem l2
  obtain ⟨u', m1, p1⟩ := DpAll.get t1 d1
  obtain ⟨v', m2, p2⟩ := DpAll.get t2 d2
  rw [hu] at m1
  rw [hv] at m2
  cases m1
  cases m2
  have z := zipE_get (n := 0) d1 d2
  rw [Nat.zero_add] at z
  have n1 : Nx Hb1 H (upd Hb1 T (.tup [u, v])) (upd H T (.tup [u, v])) := Nx.new e2 hT
  have hU1 : (upd H T (.tup [u, v])) U = none := by rw [upd_ne (Ne.symm ne)]; exact hU
  have n2 : Nx (upd Hb1 T (.tup [u, v])) (upd H T (.tup [u, v])) (upd (upd Hb1 T (.tup [u, v])) U (.tup [.int (i : Nat), .ref T])) (upd (upd H T (.tup [u, v])) U (.tup [.int (i : Nat), .ref T])) := Nx.new n1.sub hU1
  have k1 : Ex Hb (upd Hb1 T (.tup [u, v])) := e1.trans (Ex.new (e2.free hT))
  have k2 : Ex (upd Hb1 T (.tup [u, v])) (upd (upd Hb1 T (.tup [u, v])) U (.tup [.int (i : Nat), .ref T])) := Ex.new (n1.sub.free hU1)
  have nos : isS as[i] = false := by
    have := List.any_eq_false.mp no as[i] (List.getElem_mem l1)
    simpa using this
  exact ⟨_, _, n1.trans n2, z, .tup (.inl (.of upd_same)) (.cons (.int _) (.cons (Dp.ex k2 (.tup (.inl (.of upd_same)) (.cons (Dp.ex k1 p1) (.cons (Dp.ex k1 p2) .nil)) fun q => by simp [nos] at q)) .nil)) fun z => by simp [isS] at z⟩
theorem ri_ez {a : MA} {R : It → Hp → Prop} (h : tII Z (mEnumZip a) σ H R) : iEz Z.K (tIA Z a) σ H R := by
  obtain ⟨B, Hb, env, ds, env', st, e, q⟩ := h
  simp only [mEnumZip, Option.bind_eq_some_iff] at e
  obtain ⟨⟨xs, e1⟩, ha, e⟩ := e
  refine ⟨B, Hb, env, xs, e1, st, ha, fun vs ps Hb1 H1 g1 rv => ?_⟩
  have go : ∀ as bs, xs = [.d (.list as), .d (.list bs)] ∨ xs = [.d (.list as), .new (.lst bs)] → as.any isS = false → ds = zipE 0 as bs → env' = e1 →
      ∃ a b ys zs, vs = [.ref a, .ref b] ∧ SqL Z.K H1 a ys ∧ SqL Z.K H1 b zs ∧ R (Itez Z.K a b) H1 := fun as bs hx no hd he => by
    subst hd he
    obtain ⟨Hb2, g2, hd⟩ := g1.kn (ds := [.list as, .list bs]) st rv (by rcases hx with rfl | rfl <;> rfl)
    obtain ⟨v, w, rfl, d1, d2⟩ := dp2 hd
    cases d1 with
    | lst s t => cases d2 with
      | lst s2 t2 => exact ⟨_, _, _, _, rfl, sql_ex g2.st.sub s, sql_ex g2.st.sub s2, q _ Hb2 H1 g2 (itr_ez s s2 t t2 no)⟩
  split at e
  · rename_i x1 as bs hx
    split at e
    · cases e
    · rename_i no
      cases e
      exact go as bs (.inl hx) (by simpa using no) rfl rfl
  · rename_i x1 as bs hx
    split at e
    · cases e
    · rename_i no
      cases e
      exact go as bs (.inr hx) (by simpa using no) rfl rfl
  · cases e
section
variable {X : Cx} {p p2 pos pos2 tpos : Pos} {mas : MA}
theorem iI_ez {a1 a2 : Expr} {elts : List Expr} {kk : Nat} (hg : Gl X "enumerate") (hm : X.mg "enumerate" = none) (hg2 : Gl X "zip") (hm2 : X.mg "zip" = none) (ha : PA X [a1, a2] (tIA (zn X) mas))
    (hs2 : starEach [a1, a2] X.env = (false, eval a1 X.env) :: starEach [a2] X.env := by rfl) (hpl : (backTo pos2 (starEach [a2] X.env)).any (·.1) = false := by rfl)
    (hs : starEach [.Call (.Name "zip" p2) [a1, a2] [] pos2] X.env = [(false, eval (.Call (.Name "zip" p2) [a1, a2] [] pos2) X.env)] := by rfl) :
    PI X (.Tuple elts kk tpos) (.Call (.Name "enumerate" p) [.Call (.Name "zip" p2) [a1, a2] [] pos2] [] pos) (tII (zn X) (mEnumZip mas)) :=
  ⟨fun pins s σ H R I q => (pi_ez hg hm hg2 hm2 ha hs2 hpl hs).run pins s σ H R I (ri_ez q)⟩
end
end Ol
set_option Elab.async false
set_option linter.all false
set_option maxRecDepth 100000
set_option maxHeartbeats 4000000
namespace Ol
open PySem PySem.Spec PyProof.Rows L2
variable {Z : Zn} {σ : L2.St} {H : Hp} {Hb : Hp} {v : V}
/-- a name, and a target behind it -/
def mPairG (i : Nat) (g : MG) : MG := fun pv env => match pv with
  | .d (.tuple [a, b]) => (store i (.d a) env).bind (g (.d b))
  | _ => none
theorem rg_pair {i : Nat} {is : List Nat} {g : MG} {Q : L2.St → Hp → Prop} (h : tG Z (i :: is) (mPairG i g) v σ H Q) : gTup Z.K 2 (gCons (gName i) (gCons (tG Z is g) gNil)) v σ H Q := by
  obtain ⟨B, Hb, H0, env, pv, env', st, h0, hb, rv, e, q⟩ := h
  unfold mPairG at e
  split at e
  · rename_i a b
    simp only [Option.bind_eq_some_iff] at e
    obtain ⟨e1, h1, h2⟩ := e
    cases rv with
    | d w =>
      cases w with
      | tup s t _ =>
        obtain ⟨x, y, rfl, d1, d2⟩ := dp2 t
        obtain ⟨st1, ow1⟩ := st.store (v := x) (fun y hy => by cases hy; exact d1) (fun o ho => by cases ho) h1
        have ow2 : ∀ p, Ow e1 (σ.set i (some x)) p → Ow env σ p := fun p hp => by
          rcases ow1 p hp with z | ⟨_, o, z⟩
          · exact z
          · cases z
        refine ⟨_, _, rfl, sqt_ex st.sub s, rfl, x, [y], rfl, y, [], rfl, ⟨B, Hb, H0, e1, .d b, env', st1, fun p hp => h0 p (ow2 p hp), hb, .d d2, h2, fun σ' s' w' y' => ⟨rfl, q σ' s' (fun us hu => ?_) fun p hp => (y' p hp).imp (ow2 p) id⟩⟩⟩
        rw [w' us fun j hj => hu j (List.mem_cons_of_mem _ hj)]
        exact wipe_set (hu i List.mem_cons_self)
  · cases e
section
variable {X : Cx} {pos p : Pos} {i : Nat} {is : List Nat} {g : MG} {x : Str} {tg : Expr}
theorem iG_pair {k : Nat} (hc : X.calm = true) (hN : X.N.Nodup) (hi : X.N[i]? = some x) (hx : Loc X.env.scope x) (h : PG X tg (tG (zn X) is g)) (hf : X.fn x = true ∨ X.env.scope.names.lookup x = some .local := by first | exact .inl rfl | exact .inr rfl)
    (hs : (assignEach [.Name x pos, tg] X.env).map (·.2) = assign (.Name x pos) X.env :: (assignEach [tg] X.env).map (·.2) := by rfl) (hs2 : (assignEach [tg] X.env).map (·.2) = assign tg X.env :: (assignEach [] X.env).map (·.2) := by rfl)
    (hn : (assignEach [.Name x pos, tg] X.env).length = 2 := by rfl) (hst : (assignEach [.Name x pos, tg] X.env).findIdx? (·.1) = none := by rfl) : PG X (.Tuple [.Name x pos, tg] k p) (tG (zn X) (i :: is) (mPairG i g)) :=
  ⟨fun pins s σ H v u Q I r q => (pg_tup hc (pgs_cons (pg_name hN hi hx hf) (pgs_cons h pgs_nil hs2) hs) hn hst).run pins s σ H v u Q I r (rg_pair q)⟩
end
end Ol
set_option Elab.async false
set_option linter.all false
set_option maxRecDepth 100000
set_option maxHeartbeats 4000000
namespace Ol
open PySem PySem.Spec PyProof.Rows L2
variable {Z : Zn} {σ : L2.St} {H : Hp} {Hb : Hp} {v : V}
/-! d[k] -/
def getK (kvs : List (Key × D)) (k : Key) : Option D := (kvs.find? fun kv => decide (kv.1 = k)).map (·.2)
def oDg : RV → RV → Option PV
  | .m kvs, .d x => (keyOf x).bind fun k => (getK kvs k).bind fun d => some (.d d)
  | _, _ => none
theorem getK_v {K : Fg} : ∀ {kvs : List (Key × D)} {us : List (Key × V)} {k : Key} {d : D}, us.map (·.1) = kvs.map (·.1) → DpAll K H (us.map (·.2)) (kvs.map (·.2)) → getK kvs k = some d → ∃ v, valV us k = some v ∧ Dp K H v d
  | [], _, _, _, _, _, h => by simp [getK] at h
  | _ :: _, [], _, _, h, _, _ => by simp at h
  | (k1, d1) :: kvs, (k2, v2) :: us, k, d, h, t, e => by
    simp only [List.map_cons, List.cons.injEq] at h
    obtain ⟨h1, h2⟩ := h
    subst h1
    cases t with
    | cons a t =>
      unfold getK at e
      unfold valV
      rw [List.find?_cons] at e ⊢
      by_cases c : k2 = k
      · simp only [c, decide_true, Option.map_some, Option.some.injEq] at e ⊢
        subst e
        exact ⟨v2, rfl, a⟩
      · simp only [c, decide_false] at e ⊢
        exact getK_v h2 t e
def rDg : R2 := fun x y H Q => ∃ a v, x = .ref a ∧ DGet H a y (some v) ∧ Q v H
theorem s_dg : Op2 Z rDg oDg := by
  intro Hb H x y dx dy pv e rx ry h Q q
  unfold oDg at h
  split at h
  · cases rx with
    | m w =>
      simp only [Option.bind_eq_some_iff] at h
      obtain ⟨k, h1, d, h2, h3⟩ := h
      cases h3
      cases w with
      | dic w1 w2 w3 =>
        rename_i us
        obtain ⟨v, p1, p2⟩ := getK_v w2 w3 h2
        refine ⟨_, v, rfl, ?_, q _ _ _ (.refl e) (.d p2)⟩
        rw [keyOf_v (ry.dp e) h1, ← p1]
        exact .k w1
  · cases h
section
variable {X : Cx} {pos : Pos} {a b : Expr} {ma mb : ME}
theorem iE_dg (hu : X.A.units + 64 < cLine) (ha : PE X a (tI (zn X) ma)) (hb : PE X b (tI (zn X) mb)) (hs : NoSl b := by intro _ _; rfl) : PE X (.Subscript a b pos) (tI (zn X) (m2 oDg ma mb)) :=
  pe_mono (pe_dget (by omega) ha hb hs) fun σ H Q q => re_m2 s_dg q
end
end Ol
set_option Elab.async false
set_option linter.all false
set_option maxRecDepth 100000
set_option maxHeartbeats 4000000
namespace Ol
open PySem PySem.Spec PyProof.Rows L2
variable {Z : Zn} {σ : L2.St} {H : Hp} {Hb : Hp} {v : V} {B : Bs} {env e' : Env}
/-! a[i], b[j] = x, y -/
def mPut (i : Nat) (f : Ob → D → D → Option Ob) (ix : ME) (y : D) (e : Env) : Option Env := match sget e i with
  | some (.own _ _) => (ix e).bind fun k => (fz k.1).bind fun kd => match sget k.2 i with
    | some (.own b o) => (f o kd y).bind fun o' => some (sset k.2 i (some (.own b o')))
    | _ => none
  | _ => none
def mSwapIx (i : Nat) (k1 : ME) (j : Nat) (k2 : ME) (a : ME) : MS := fun env => (a env).bind fun x => match x.1 with
  | .d (.tuple [d1, d2]) => (mPut i fSetL k1 d1 x.2).bind fun e1 => (mPut j fSetL k2 d2 e1).bind fun e2 => some (.nx e2)
  | _ => none
theorem put_ok {f : Ob → D → D → Option Ob} {ix : ME} {r : V → V → V → Hp → (Hp → Prop) → Prop} {i : Nat} {y : D} {Q : L2.St → Hp → Prop} (hr : OpS Z r f) (st : Sta Z B Hb H σ env) (hd : Dp Z.K Hb v y) (e : mPut i f ix y env = some e')
    (q : ∀ Hb' H', Sta Z B Hb' H' σ e' → Ex Hb Hb' → Q σ H') : gSub (tVar i) (tI Z ix) r v σ H Q := by
  unfold mPut at e
  cases h2 : sget env i with
  | none => simp [h2] at e
  | some sv =>
    simp only [h2] at e
    cases sv with
    | d x => cases e
    | own b0 o0 =>
      simp only [Option.bind_eq_some_iff] at e
      obtain ⟨⟨k, e2⟩, hb, dk, h3, e⟩ := e
      obtain ⟨p, q1, _⟩ := st.sl i _ h2
      refine ⟨_, q1, B, Hb, env, k, e2, st, hb, fun kv Hb3 H3 g3 rk => ?_⟩
      obtain ⟨Hb4, g4, hk⟩ := fz_known st g3 rk h3
      cases h4 : sget e2 i with
      | none => simp [h4] at e
      | some sv =>
        simp only [h4] at e
        cases sv with
        | d x => cases e
        | own b o =>
          simp only [Option.bind_eq_some_iff] at e
          obtain ⟨o', hf, e⟩ := e
          cases e
          obtain ⟨p', w1, w2, w3, w4⟩ := g4.st.sl i _ h4
          rw [q1] at w1
          cases w1
          exact hr Hb4 H3 p o kv v dk y o' g4.st.sub w3 w2 hk (Dp.ex g4.ny.kb hd) hf _ fun u hw => q Hb4 _ (g4.put st h4 q1 hw).st g4.ny.kb
theorem rs_swap {i j : Nat} {k1 k2 a : ME} {r : V → V → V → Hp → (Hp → Prop) → Prop} {D : Ends} (hr : OpS Z r fSetL) (h : tS Z (mSwapIx i k1 j k2 a) D σ H) :
    tAsg (tI Z a) (gTup Z.K 2 (gCons (gSub (tVar i) (tI Z k1) r) (gCons (gSub (tVar j) (tI Z k2) r) gNil))) D σ H := by
  obtain ⟨B, Hb, env, rr, st, e, q⟩ := h
  simp only [mSwapIx, Option.bind_eq_some_iff] at e
  obtain ⟨⟨x, e1⟩, ha, e⟩ := e
  refine ⟨B, Hb, env, x, e1, st, ha, fun v Hb1 H1 g1 rv => ?_⟩
  split at e
  · rename_i x1 d1 d2 hx
    have hx' : x = _ := hx
    subst hx'
    simp only [Option.bind_eq_some_iff] at e
    obtain ⟨e2, p1, e3, p2, e⟩ := e
    cases e
    cases rv with
    | d w =>
      cases w with
      | tup s t _ =>
        obtain ⟨y1, y2, rfl, t1, t2⟩ := dp2 t
        refine ⟨_, _, rfl, sqt_ex g1.st.sub s, rfl, y1, [y2], rfl, put_ok hr g1.st t1 p1 fun Hb2 H2 s2 x2 => ⟨y2, [], rfl, put_ok hr s2 (Dp.ex x2 t2) p2 fun Hb3 H3 s3 x3 => ⟨rfl, q σ Hb3 H3 s3 ((g1.ny.kb.trans x2).trans x3)⟩⟩⟩
  · cases e
section
variable {X : Cx} {pos p p1 p2 : Pos} {i j : Nat} {o o2 b b2 a : Expr} {mb mb2 ma : ME}
theorem iS_swap {k : Nat} (hc : X.calm = true) (ho : PE X o (tVar i)) (hi : PE X b (tI (zn X) mb)) (ho2 : PE X o2 (tVar j)) (hi2 : PE X b2 (tI (zn X) mb2)) (he : PE X a (tI (zn X) ma))
    (ha : ∀ v, assign (.Subscript o b p1) X.env v = (do
      let ov ← holding [v] (eval o X.env)
      let iv ← holding [v, ov] (eval b X.env)
      standAt p1
      holding [v, ov, iv] (setItem ov iv v)
      release [v, ov, iv] []) := by intro _; rfl)
    (ha2 : ∀ v, assign (.Subscript o2 b2 p2) X.env v = (do
      let ov ← holding [v] (eval o2 X.env)
      let iv ← holding [v, ov] (eval b2 X.env)
      standAt p2
      holding [v, ov, iv] (setItem ov iv v)
      release [v, ov, iv] []) := by intro _; rfl)
    (hs1 : (assignEach [.Subscript o b p1, .Subscript o2 b2 p2] X.env).map (·.2) = assign (.Subscript o b p1) X.env :: (assignEach [.Subscript o2 b2 p2] X.env).map (·.2) := by rfl) (hs2 : (assignEach [.Subscript o2 b2 p2] X.env).map (·.2) = assign (.Subscript o2 b2 p2) X.env :: (assignEach [] X.env).map (·.2) := by rfl)
    (hn : (assignEach [.Subscript o b p1, .Subscript o2 b2 p2] X.env).length = 2 := by rfl) (hst : (assignEach [.Subscript o b p1, .Subscript o2 b2 p2] X.env).findIdx? (·.1) = none := by rfl)
    (hs : swapsWithSole [.Tuple [.Subscript o b p1, .Subscript o2 b2 p2] k p] a pos.line X.env = pure false := by rfl) (hw : swappedStores [.Tuple [.Subscript o b p1, .Subscript o2 b2 p2] k p] a X.env = pure none := by rfl)
    (h1 : (assignEach [.Tuple [.Subscript o b p1, .Subscript o2 b2 p2] k p] X.env).map (·.2) = [assign (.Tuple [.Subscript o b p1, .Subscript o2 b2 p2] k p) X.env] := by rfl) :
    PS X (.Assign [.Tuple [.Subscript o b p1, .Subscript o2 b2 p2] k p] a pos) (tS (zn X) (mSwapIx i mb j mb2 ma)) :=
  ps_mono (ps_asg he (pg_tup hc (pgs_cons (pg_sub ho hi set_list ha) (pgs_cons (pg_sub ho2 hi2 set_list ha2) pgs_nil hs2) hs1) hn hst) hs hw h1) fun D σ H => rs_swap t_setL
end
end Ol
set_option Elab.async false
set_option linter.all false
set_option maxRecDepth 100000
set_option maxHeartbeats 4000000
/-! own: sorted(set(x)) of ints; x[::-1]; t.index(x); list(range(n)) -/
namespace Ol
open PySem PySem.Spec PyProof.Rows L2
def rSortedQI (P : Program) (w : World) : List V → Hp → VK → Prop := fun xs H Q => ∃ (p : Addr) (zs : List Int), xs = [.ref p] ∧ H p = some (SetQ P w p (zs.map Sum.inl)) ∧ zs.length < 64 ∧
  ∀ (ys : List Int) (q : Addr), ys.Perm zs → ys.Pairwise (· ≤ ·) → H q = none → Q (.ref q) (upd H q (.lst (ys.map V.int)))
theorem ints_of_ents {P : Program} {w : World} : ∀ {es : List (Int × Value)} {zs : List Int}, Paired (Ent (mixKind P w)) es (zs.map Sum.inl) → IntsAre (es.map (·.2)) zs
  | _, [], .nil => .nil
  | (hsh, v) :: es, z :: zs, .cons r t => by
    rcases keyIs_shape (show keyIs (Sum.inl z) v = true from r.1.1) with ⟨i, tk, ek, e⟩ | ⟨x, tk, ek, e⟩
    · cases ek
      subst e
      exact .cons z tk (ints_of_ents t)
    · cases ek
theorem ints_perm {l l' : List Value} (p : l'.Perm l) : ∀ {zs : List Int}, IntsAre l zs → ∃ zs', IntsAre l' zs' ∧ zs'.Perm zs := by
  induction p with
  | nil => intro zs h; exact ⟨zs, h, .refl _⟩
  | cons x _ ih =>
    intro zs h
    cases h with
    | cons n t r =>
      obtain ⟨m, h1, h2⟩ := ih r
      exact ⟨n :: m, .cons n t h1, h2.cons _⟩
  | swap x y l =>
    intro zs h
    cases h with
    | cons n t r => cases r with
      | cons n2 t2 r2 => exact ⟨n2 :: n :: _, .cons n2 t2 (.cons n t r2), .swap _ _ _⟩
  | trans _ _ ih1 ih2 =>
    intro zs h
    obtain ⟨m1, h1, p1⟩ := ih2 h
    obtain ⟨m2, h2, p2⟩ := ih1 h1
    exact ⟨m2, h2, p2.trans p1⟩
section
variable {X : Cx}
theorem cr_sortedQI (hc : X.calm = true) : CallR X (.builtin "sorted") (rSortedQI X.prog X.w) := by
  intro pins s σ H xs us Q I r h
  obtain ⟨p, zs, rfl, ha, h64, q⟩ := h
  rw [Vals.ref1 r]
  obtain ⟨ob, es, ep, t, ls, ho, hx, hd, hp, pm, nd, hb, hf, hr, hl⟩ := (I.hok p _ ha).1
  have hz : es.size = zs.length := by rw [← Array.length_toList, hp.length, pm.length_eq, List.length_map]
  refine Calls.call_function_entry kind_sorted plain_sorted entry_sorted (args_sorted1 _) ?_
  unfold Builtin.«sorted»
  refine wpAny_bind (m := checkCount "sorted" 1 1 _) (wpAny_pure ?_)
  refine wpAny_bind (collect_set (A := X.A.in1) (I.ok.hd hc) ⟨ob, ho, hx.1, hd⟩ hf (by rw [hz]; simpa using hb) hr hl fun s1 vs k1 z1 g1 o1 pv => ?_)
  have hS : ∃ ws, IntsAre vs ws ∧ ws.Perm zs := by
    obtain ⟨es', hpe, hpp⟩ := paired_perm2 pm.symm hp
    exact ints_perm (pv.trans (hpp.symm.map (·.2))) (ints_of_ents hpe)
  obtain ⟨ws, hS, hw⟩ := hS
  have hvl : vs.length = zs.length := by rw [hS.length, hw.length_eq]
  refine wpAny_bind (wpAny_newList ?_ (by rw [hvl, sizeLine_eq]; omega))
  have at1 : (s1.heap.push (seqObj "list" vs.toArray 0)).get? s1.heap.objs.size = some (seqObj "list" vs.toArray 0) := Heap.get?_push_size _ rfl
  refine wpAny_bind (wpAny_holding (wpAny_call_entry PyProof.Rows.slot_list_sort ⟨_, at1, rfl⟩ PyProof.Rows.entry_list_sort
    (list_sort_tree at1 hS (by rw [hvl]; exact h64) fun out ys y1 y2 y3 => ⟨_, rfl, ?_⟩)
    (PyProof.Rows.args_list_sort _)))
  obtain ⟨n', at2⟩ := PyProof.Rows.sortedHeap_at (vs := vs) (out := out) at1
  have pz : ys.Perm zs := y2.trans hw
  have hle : (ys.map V.int).length ≤ sizeLine := by rw [List.length_map, pz.length_eq]; exact small64 h64
  have old : ∀ b o, s.heap.get? b = some o → (sortedHeap (s1.heap.push (seqObj "list" vs.toArray 0)) s1.heap.objs.size vs out).get? b = some o := fun b o e => by
    have e1 := k1 b o e
    have lt := Heap.lt_size e1
    rw [sortedHeap_old (Nat.ne_of_lt lt) (by rw [size_push']; exact Nat.lt_succ_of_lt lt)]
    exact Heap.get?_push_of_some _ e1
  have hn : H s1.heap.objs.size = none := I.hok.fresh z1
  have new : ObjOk X.prog X.w (upd H s1.heap.objs.size (.lst (ys.map V.int))) (sortedHeap (s1.heap.push (seqObj "list" vs.toArray 0)) s1.heap.objs.size vs out) s1.heap.objs.size (.lst (ys.map V.int)) :=
    ⟨hle, out.toList, n', vals_of_ints y1, by rw [Array.toArray_toList]; exact at2⟩
  refine wpAny_pure ⟨_, rfl, .ref s1.heap.objs.size, upd H s1.heap.objs.size (.lst (ys.map V.int)), ?_, rfl, q ys _ pz y3 hn⟩
  have J : Inv X pins σ (upd H s1.heap.objs.size (.lst (ys.map V.int))) { s with heap := sortedHeap (s1.heap.push (seqObj "list" vs.toArray 0)) s1.heap.objs.size vs out, gens := s1.gens, drawn := s1.drawn, toks := s1.toks } :=
    I.call (ch := []) (Un.laid old z1 hn) (I.hok.laid old z1 new) (by rw [g1]; exact I.bare) (fun _ z => nomatch z)
  have e : ({ s1 with heap := sortedHeap (s1.heap.push (seqObj "list" vs.toArray 0)) s1.heap.objs.size vs out } : Shared) = { s with heap := sortedHeap (s1.heap.push (seqObj "list" vs.toArray 0)) s1.heap.objs.size vs out, gens := s1.gens, drawn := s1.drawn, toks := s1.toks } := by
    rw [← o1]
  rw [e]
  exact J
end
def leI (a b : Int) : Bool := decide (a ≤ b)
def sortI (zs : List Int) : List Int := zs.mergeSort leI
theorem sortI_of {ys zs : List Int} (h1 : ys.Perm zs) (h2 : ys.Pairwise (· ≤ ·)) : ys = sortI zs := by
  have hq := List.pairwise_mergeSort (le := leI) (fun a b c h1 h2 => by simp only [leI, decide_eq_true_eq] at *; omega) (fun a b => by simp only [leI, Bool.or_eq_true, decide_eq_true_eq]; omega) zs
  have hq' : (sortI zs).Pairwise (· ≤ ·) := hq.imp fun h => of_decide_eq_true h
  exact List.Perm.eq_of_pairwise (fun a b _ _ h1 h2 => Int.le_antisymm h1 h2) h2 hq' (h1.trans (List.mergeSort_perm zs leI).symm)
def oSortedI (r : RV) : Option PV := match r with
  | .d (.list ds) => (intsOf ds).bind fun zs => if zs.length + 1 < scanBound ∧ (dist zs).length < 64 then some (.new (.lst ((sortI (dist zs)).map .int))) else none
  | _ => none
def mSortedSetI (a : ME) : ME := m1 oSortedI a
section
variable {Z : Zn} {σ : L2.St} {H : Hp}
theorem re_sortedSetI {a : ME} {Q : VK} (h : tI Z (mSortedSetI a) σ H Q) : tCB (rSortedQI Z.P Z.w) (tCons (tCB (rSetK Z.K Z.P Z.w) (tCons (tI Z a) tNil)) tNil) σ H Q := by
  obtain ⟨B, Hb, env, pv, env', st, e, q⟩ := h
  simp only [mSortedSetI, m1, Option.bind_eq_some_iff] at e
  obtain ⟨⟨x, e1⟩, ha, r, h1, p, h2, h3⟩ := e
  cases h3
  refine ⟨B, Hb, env, x, _, st, ha, fun v Hb1 H1 g1 rv => ?_⟩
  have main : ∀ (a : Addr) (zs : List Int), v = .ref a → (SqL Z.K H1 a (zs.map V.int) ∨ SqT Z.K H1 a (zs.map V.int)) → zs.length + 1 < scanBound ∧ (dist zs).length < 64 → pv = PV.new (Ob.lst ((sortI (dist zs)).map PyData.int)) →
      rSetK Z.K Z.P Z.w [v] H1 fun x H2 => rSortedQI Z.P Z.w [x] H2 Q := by
    intro a zs ev hs hl ep
    subst ev ep
    have ek : zs.map V.int = (zs.map Sum.inl : List Key).map kV := by rw [List.map_map]; rfl
    rw [ek] at hs
    refine ⟨a, zs.map Sum.inl, rfl, hs, by rw [List.length_map]; exact hl.1, .inr fun s hn => ?_⟩
    have n1 := Nx.newOwn (o := SetQ Z.P Z.w s (dist (zs.map Sum.inl))) g1.st.sub hn
    have g2 := g1.nx n1
    refine ⟨s, dist zs, rfl, by rw [upd_same, dist_map Sum.inl (fun _ _ h => Sum.inl.inj h)], hl.2, fun ys t hp hsr ht => ?_⟩
    have n2 := Nx.newOwn (o := .lst (ys.map V.int)) g2.st.sub ht
    have g3 := g2.nx n2
    have ey := sortI_of hp hsr
    subst ey
    exact q _ _ _ g3 (.new (g1.ny.back t (by
      have : t ≠ s := fun z => by rw [z, upd_same] at ht; cases ht
      rw [upd_ne this] at ht
      exact ht)) (g2.st.sub.free ht) (.lst upd_same (DpAll.ints _)))
  have w := rv.rd g1.st h1
  unfold oSortedI at h2
  split at h2
  · cases w with
    | lst s t =>
      simp only [Option.bind_eq_some_iff] at h2
      obtain ⟨zs, h3, h4⟩ := h2
      have hd := intsOf_eq h3
      subst hd
      have hv := DpAll.ints_inv t
      subst hv
      split at h4
      · rename_i c; exact main _ zs rfl (.inl s) c (Option.some.inj h4).symm
      · cases h4
  · cases h2
end
section
variable {X : Cx} {a b : Expr} {ma mb : ME} {p p1 p2 pos py : Pos} {is : List Nat}
theorem iE_sortedSetI (hc : X.calm = true) (hg : Gl X "sorted") (hm : X.mg "sorted" = none) (hg' : Gl X "set") (hm' : X.mg "set" = none) (ha : PE X a (tI (zn X) ma))
    (hs : starEach [a] X.env = (false, eval a X.env) :: starEach [] X.env := by rfl) : PE X (.Call (.Name "sorted" p) [.Call (.Name "set" p1) [a] [] p2] [] pos) (tI (zn X) (mSortedSetI ma)) :=
  pe_mono (pe_callB (cr_sortedQI hc) hg hm (by rfl) (pa_cons (pe_callTy (cr_setK hc) hg' hm' (by rfl) (pa_cons ha pa_nil hs) (by decide) (by decide) hs (by rfl)) pa_nil) (by decide) (by decide) (by rfl) (by rfl)) fun σ H Q => re_sortedSetI
/-! x[::-1] -/
def oRev : RV → Option PV
  | .d (.list ds) => some (.new (.lst ds.reverse))
  | _ => none
theorem re_rev {Z : Zn} {σ : L2.St} {H : Hp} {a : ME} {Q : VK} (h : tI Z (m1 oRev a) σ H Q) : tRevL Z.K (tI Z a) (tIO Z (mP (m1 oNeg (mC (.int 1))))) σ H Q := by
  obtain ⟨B, Hb, env, pv, env', st, e, q⟩ := h
  simp only [m1, Option.bind_eq_some_iff] at e
  obtain ⟨⟨x, e1⟩, ha, r, h1, p, h2, h3⟩ := e
  cases h3
  refine ⟨B, Hb, env, x, _, st, ha, fun v Hb1 H1 g1 rv => ⟨B, Hb1, _, some (-1), _, g1.st, rfl, fun Hb2 H2 g2 => ⟨rfl, ?_⟩⟩⟩
  have rv1 := rv.keep (fun p hp => own_some st p (g1.ow p hp)) g2.ny
  have w := rv1.rd g2.st h1
  unfold oRev at h2
  split at h2
  · cases w with
    | lst s t =>
      cases h2
      rename_i a0 xs0
      refine ⟨_, _, rfl, s, fun p hp => ?_⟩
      have n := Nx.newOwn (o := .lst xs0.reverse) g2.st.sub hp
      exact q _ _ _ ((g1.trans g2).nx n) (.new ((g1.trans g2).ny.back p hp) (g2.st.sub.free hp) (.lst upd_same (DpAll.reverse t)))
  · cases h2
theorem iE_rev {kk : Nat} (ha : PE X a (tI (zn X) ma)) : PE X (.Subscript a (.Slice none none (some (.UnaryOp .USub (.Constant (.int 1) kk p) p1)) p2) pos) (tI (zn X) (m1 oRev ma)) :=
  pe_mono (pe_revL ha (iO_some (iE_neg iE_int))) fun σ H Q => re_rev
/-! t.index(x) -/
def idxOf (ys : List Str) (z : Str) : Option Nat := ys.findIdx? fun y => decide (y = z)
def mIdx (a b : ME) : ME := fun env => (a env).bind fun x => match x.1 with
  | .d (.tuple ds) => (strsOf ds).bind fun ys => (b x.2).bind fun y => match y.1 with
    | .d (.str z) => (idxOf ys z).bind fun j => some (.d (.int (j : Nat)), y.2)
    | _ => none
  | _ => none
theorem re_idx {Z : Zn} {σ : L2.St} {H : Hp} {a b : ME} {Q : VK} (h : tI Z (mIdx a b) σ H Q) : tIdx Z.K (tI Z a) (tIA Z (mCons b mNil)) σ H Q := by
  obtain ⟨B, Hb, env, pv, env', st, e, q⟩ := h
  simp only [mIdx, Option.bind_eq_some_iff] at e
  obtain ⟨⟨x, e1⟩, ha, e⟩ := e
  split at e
  · rename_i ds hx
    have hx' : x = _ := hx
    subst hx'
    simp only [Option.bind_eq_some_iff] at e
    obtain ⟨ys, h1, ⟨y, e2⟩, hb, e⟩ := e
    split at e
    · rename_i z hy
      have hy' : y = _ := hy
      subst hy'
      simp only [Option.bind_eq_some_iff] at e
      obtain ⟨j, h2, h3⟩ := e
      cases h3
      have hd := strsOf_eq h1
      subst hd
      refine ⟨B, Hb, env, _, _, st, ha, fun v Hb1 H1 g1 rv => ?_⟩
      cases rv with
      | d w => cases w with
        | tup s t n =>
          have nd := n (by simp [isS])
          have hv := DpAll.strs_inv t
          subst hv
          refine ⟨⟨_, _, rfl, sqt_ex g1.st.sub s, nd.ex g1.st.sub⟩, B, Hb1, e1, [.d (.str z)], _, g1.st, by simp [mCons, mNil, hb]; rfl, fun vs ps Hb2 H2 g2 rvs => ?_⟩
          cases rvs with
          | d w2 t2 =>
            cases t2
            cases w2
            obtain ⟨hj, hz, hno⟩ := List.findIdx?_eq_some_iff_getElem.mp h2
            refine ⟨_, ys, z, j, rfl, rfl, sqt_ex (g2.ny.kb.trans g2.st.sub) s, ?_, fun m hm hq => ?_, q _ Hb2 H2 (g1.trans g2) (.d (.int _))⟩
            · rw [List.getElem?_eq_getElem hj, of_decide_eq_true hz]
            · have hm' := hno m hm
              have hlt : m < ys.length := Nat.lt_trans hm hj
              rw [List.getElem?_eq_getElem hlt] at hq
              simp [Option.some.inj hq] at hm'
    · cases e
  · cases e
theorem iE_idx {apos cpos : Pos} (ha : PE X a (tI (zn X) ma)) (hb : PE X b (tI (zn X) mb))
    (hbase : attributeBase a "index" X.env (eval a X.env) = eval a X.env := by rfl)
    (hfew : ((backTo cpos (starEach [b] X.env)).all (fun x => !x.1) && (backToKw cpos (keywordEach [] X.env)).all (fun x => x.1.isSome)
      && decide (([b] : List Expr).length + ([] : List Keyword).length + (if ([] : List Keyword).isEmpty then 0 else 1) < 30)) = true := by rfl)
    (hline : (apos.endLine == cpos.line) = true := by rfl) (hs : starEach [b] X.env = (false, eval b X.env) :: starEach [] X.env := by rfl) (hp : (backTo cpos (starEach [] X.env)).any (·.1) = false := by rfl) :
    PE X (.Call (.Attribute a "index" apos) [b] [] cpos) (tI (zn X) (mIdx ma mb)) := pe_mono (pe_tupIdx ha (iA_cons hb iA_nil hs) hbase hfew hline hs hp) fun σ H Q => re_idx
/-! list(range(n)) -/
def mListR (a : ME) : ME := fun env => (a env).bind fun x => match x.1 with
  | .d (.int n) => if 0 ≤ n ∧ n ≤ 16777216 then some (.new (.lst (rangeD 0 n.toNat)), x.2) else none
  | _ => none
theorem re_listR {Z : Zn} {σ : L2.St} {H : Hp} {a : ME} {Q : VK} (h : tI Z (mListR a) σ H Q) : tLstRg (tRg1 (tI Z a)) σ H Q := by
  obtain ⟨B, Hb, env, pv, env', st, e, q⟩ := h
  simp only [mListR, Option.bind_eq_some_iff] at e
  obtain ⟨⟨x, e1⟩, ha, e⟩ := e
  split at e
  · rename_i n hx
    have hx' : x = _ := hx
    subst hx'
    split at e
    · rename_i c
      cases e
      refine ⟨B, Hb, env, _, _, st, ha, fun v Hb1 H1 g1 rv => ?_⟩
      cases rv with
      | d w =>
        cases w
        refine ⟨n, rfl, RgOk.of_le (by decide) c.2 (by decide) c.1, fun p hp => ?_⟩
        have n1 := Nx.newOwn (o := .lst (rgV 0 n)) g1.st.sub hp
        refine q _ _ _ (g1.nx n1) (.new (g1.ny.back p hp) (g1.st.sub.free hp) (.lst upd_same ?_))
        have e1 : rgV 0 n = ((List.range n.toNat).map fun i : Nat => (0 : Int) + (i : Int)).map V.int := by
          unfold rgV
          rw [List.map_map, Int.sub_zero]
          rfl
        have e2 : rangeD 0 n.toNat = ((List.range n.toNat).map fun i : Nat => (0 : Int) + (i : Int)).map PyData.int := by
          unfold rangeD
          rw [List.map_map]
          rfl
        rw [e1, e2]
        exact DpAll.ints _
    · cases e
  · cases e
theorem iE_listR (hc : X.calm = true) (hg : Gl X "list") (hm : X.mg "list" = none) (hg' : Gl X "range") (hm' : X.mg "range" = none) (ha : PE X a (tI (zn X) ma))
    (hs : starEach [a] X.env = (false, eval a X.env) :: starEach [] X.env := by rfl) (hs2 : starEach [.Call (.Name "range" p1) [a] [] p2] X.env = (false, eval (.Call (.Name "range" p1) [a] [] p2) X.env) :: starEach [] X.env := by rfl) : PE X (.Call (.Name "list" p) [.Call (.Name "range" p1) [a] [] p2] [] pos) (tI (zn X) (mListR ma)) :=
  pe_mono (pe_listRg hc hg hm (prg_1 hg' hm' ha hs) hs2) fun σ H Q => re_listR
/-! a, b = f(..): new lists among what comes back are never changed -/
def frT : PV → PV
  | .tup xs => .tup (fzIO (xs.map fun _ => false) xs)
  | x => x
@[simp] def mAsgT (is : List Nat) (a : ME) : MS := fun env => (a env).bind fun x => (mNames is (frT x.1) x.2).bind fun e => some (.nx e)
theorem rs_asgT {Z : Zn} {is : List Nat} {a : ME} {D : Ends} {σ : L2.St} {H : Hp} (h : tS Z (mAsgT is a) D σ H) : tAsg (tI Z a) (tG Z is (mNames is)) D σ H := by
  obtain ⟨B, Hb, env, r, st, e, q⟩ := h
  simp only [mAsgT, Option.bind_eq_some_iff] at e
  obtain ⟨⟨x, e1⟩, ha, e2, h1, h2⟩ := e
  cases h2
  refine ⟨B, Hb, env, x, e1, st, ha, fun v Hb' H' g1 rv => ?_⟩
  have plain : frT x = x → tG Z is (mNames is) v σ H' D.nx := fun hx => by
    rw [hx] at h1
    exact ⟨B, Hb', H, e1, x, e2, g1.st, fun p hp => own_some st p (g1.ow p hp), st.h0, rv, h1, fun σ' s _ _ => q σ' Hb' H' s g1.ny.kb⟩
  cases x with
  | d y => exact plain rfl
  | slot j => exact plain rfl
  | new o => exact plain rfl
  | tup xs =>
    cases rv with
    | tup s t =>
      obtain ⟨Hb2, ps2, k2, z2, rv2, s2⟩ := t.fzIO g1.st.sub (ios := xs.map fun _ => false)
      have g2 := g1.know st k2
      exact ⟨B, Hb2, H, e1, _, e2, g2.st, fun p hp => own_some st p (g2.ow p hp), st.h0, .tup (sqt_ex k2.kb s) rv2, h1, fun σ' s _ _ => q σ' Hb2 H' s g2.ny.kb⟩
theorem iS_asgT {tg : Expr} (he : PE X a (tI (zn X) ma)) (hg : PG X tg (tG (zn X) is (mNames is))) (hs : swapsWithSole [tg] a pos.line X.env = pure false := by rfl) (hw : swappedStores [tg] a X.env = pure none := by rfl) (h1 : (assignEach [tg] X.env).map (·.2) = [assign tg X.env] := by rfl) :
    PS X (.Assign [tg] a pos) (tS (zn X) (mAsgT is ma)) := ps_mono (ps_asg he hg hs hw h1) fun D σ H => rs_asgT
end
section
variable {X : Cx} {e : Expr} {st : Stmt} {Z : Zn} {x y : ME} {is : List Nat}
theorem gSSI (h : PE X e (tI Z (mSortedSetI x))) : PE X e (tI Z (mSortedSetI x)) := h
theorem gIdx (h : PE X e (tI Z (mIdx x y))) : PE X e (tI Z (mIdx x y)) := h
theorem gLR (h : PE X e (tI Z (mListR x))) : PE X e (tI Z (mListR x)) := h
theorem gAsT (h : PS X st (tS Z (mAsgT is x))) : PS X st (tS Z (mAsgT is x)) := h
end
end Ol
namespace Ol
open PySem PySem.Spec PyProof.Rows L2
section
variable {X : Cx}
/-! x is True, x is False -/
theorem op_isB : OpR X (compareOp .Is) (fun x y H Q => ∃ a b, x = .bl a ∧ y = .bl b ∧ Q (.bl (a == b)) H) := by
  intro pins s σ H x y v u Q I rx ry h
  obtain ⟨a, b, rfl, rfl, q⟩ := h
  cases rx
  cases ry
  exact wpAny_is_plain rfl (fin_bl I q (by cases a <;> cases b <;> rfl))
theorem op_notB : OpR X (compareOp .IsNot) (fun x y H Q => ∃ a b, x = .bl a ∧ y = .bl b ∧ Q (.bl (!(a == b))) H) := by
  intro pins s σ H x y v u Q I rx ry h
  obtain ⟨a, b, rfl, rfl, q⟩ := h
  cases rx
  cases ry
  exact wpAny_isNot_plain rfl (fin_bl I q (by cases a <;> cases b <;> rfl))
def oIsB : RV → RV → Option PV
  | .d (.bool a), .d (.bool b) => some (bD (a == b))
  | _, _ => none
def oNotB : RV → RV → Option PV
  | .d (.bool a), .d (.bool b) => some (bD (!(a == b)))
  | _, _ => none
variable {Z : Zn}
theorem s_isB : Op2 Z (fun x y H Q => ∃ a b, x = .bl a ∧ y = .bl b ∧ Q (.bl (a == b)) H) oIsB := by
  intro Hb H x y dx dy pv e rx ry h Q q
  unfold oIsB at h
  split at h
  · cases rx
    cases ry
    cases h
    exact ⟨_, _, rfl, rfl, q _ _ _ (.refl e) (vrB _)⟩
  · cases h
theorem s_notB : Op2 Z (fun x y H Q => ∃ a b, x = .bl a ∧ y = .bl b ∧ Q (.bl (!(a == b))) H) oNotB := by
  intro Hb H x y dx dy pv e rx ry h Q q
  unfold oNotB at h
  split at h
  · cases rx
    cases ry
    cases h
    exact ⟨_, _, rfl, rfl, q _ _ _ (.refl e) (vrB _)⟩
  · cases h
end
end Ol
set_option Elab.async false
set_option linter.all false
set_option maxRecDepth 100000
set_option maxHeartbeats 4000000
namespace Ol
open PySem PySem.Spec PyProof.Rows L2
section
variable {X : Cx} {e tg : Expr} {Z : Zn} {l : MA}
theorem gIez (h : PI X tg e (tII Z (mEnumZip l))) : PI X tg e (tII Z (mEnumZip l)) := h
variable {st : Stmt} {i j : Nat} {x y z : ME}
theorem gSw (h : PS X st (tS Z (mSwapIx i x j y z))) : PS X st (tS Z (mSwapIx i x j y z)) := h
end
section
variable {X : Cx} {a b c : Expr} {x y z : Str} {px py pz pt pt2 pos : Pos} {i j l : Nat} {mas : MA}
theorem iS_par3 {kt k2} (hc : X.calm = true) (hN : X.N.Nodup) (hi : X.N[i]? = some x) (hj : X.N[j]? = some y) (hl : X.N[l]? = some z) (hij : i ≠ j) (hil : i ≠ l) (hjl : j ≠ l) (hx : X.env.scope.names.lookup x = some .local) (hy : X.env.scope.names.lookup y = some .local) (hz : X.env.scope.names.lookup z = some .local) (ha : PA X [a, b, c] (tIA (zn X) mas))
    (hw : swappedStores [.Tuple [.Name x px, .Name y py, .Name z pz] kt pt] (.Tuple [a, b, c] k2 pt2) X.env = pure (some [x, y, z])) (hs : swapsWithSole [.Tuple [.Name x px, .Name y py, .Name z pz] kt pt] (.Tuple [a, b, c] k2 pt2) pos.line X.env = pure false := by rfl) :
    PS X (.Assign [.Tuple [.Name x px, .Name y py, .Name z pz] kt pt] (.Tuple [a, b, c] k2 pt2) pos) (tS (zn X) (mPar [i, j, l] mas)) := ps_mono (ps_par3 hc hN hi hj hl hij hil hjl hx hy hz ha hw hs) fun D σ H => rs_par3
end
end Ol
set_option Elab.async false
set_option linter.all false
set_option maxRecDepth 100000
set_option maxHeartbeats 4000000
namespace Ol
open PySem PySem.Spec PyProof.Rows L2
/-! xs.index(x), a list of texts -/
def mIdxL (a b : ME) : ME := fun env => (a env).bind fun x => match x.1 with
  | .d (.list ds) => (strsOf ds).bind fun ys => (b x.2).bind fun y => match y.1 with
    | .d (.str z) => (idxOf ys z).bind fun j => some (.d (.int (j : Nat)), y.2)
    | _ => none
  | _ => none
theorem all_flat : ∀ ys : List Str, (ys.map V.str).all flatV = true
  | [] => rfl
  | y :: r => by simp [flatV, all_flat r]
theorem eqV_str (a b : Str) : eqV (.str a) (.str b) = decide (a = b) := by
  by_cases h : a = b <;> simp [eqV, h]
theorem re_idxL {Z : Zn} {σ : L2.St} {H : Hp} {a b : ME} {Q : VK} (h : tI Z (mIdxL a b) σ H Q) : tBM Z.K "list" (rIndex Z.K) (tI Z a) (tIA Z (mCons b mNil)) σ H Q := by
  obtain ⟨B, Hb, env, pv, env', st, e, q⟩ := h
  simp only [mIdxL, Option.bind_eq_some_iff] at e
  obtain ⟨⟨x, e1⟩, ha, e⟩ := e
  split at e
  · rename_i ds hx
    have hx' : x = _ := hx
    subst hx'
    simp only [Option.bind_eq_some_iff] at e
    obtain ⟨ys, h1, ⟨y, e2⟩, hb, e⟩ := e
    split at e
    · rename_i z hy
      have hy' : y = _ := hy
      subst hy'
      simp only [Option.bind_eq_some_iff] at e
      obtain ⟨j, h2, h3⟩ := e
      cases h3
      have hd := strsOf_eq h1
      subst hd
      refine ⟨B, Hb, env, _, _, st, ha, fun v Hb1 H1 g1 rv => ?_⟩
      cases rv with
      | d w => cases w with
        | lst s t =>
          have hv := DpAll.strs_inv t
          subst hv
          refine ⟨.inl ⟨rfl, _, sql_ex g1.st.sub s⟩, B, Hb1, e1, [.d (.str z)], _, g1.st, by simp [mCons, mNil, hb]; rfl, fun vs ps Hb2 H2 g2 rvs => ?_⟩
          cases rvs with
          | d w2 t2 =>
            cases t2
            cases w2
            obtain ⟨hj, hz, hno⟩ := List.findIdx?_eq_some_iff_getElem.mp h2
            refine ⟨_, ys.map V.str, .str z, j, .str z, rfl, rfl, sql_ex (g2.ny.kb.trans g2.st.sub) s, rfl, all_flat ys, ?_, by rw [eqV_str]; simp, fun m z' hm hq => ?_, q _ Hb2 H2 (g1.trans g2) (.d (.int _))⟩
            · rw [List.getElem?_map, List.getElem?_eq_getElem hj, of_decide_eq_true hz]; rfl
            · have hm' := hno m hm
              have hlt : m < ys.length := Nat.lt_trans hm hj
              rw [List.getElem?_map, List.getElem?_eq_getElem hlt] at hq
              cases hq
              rw [eqV_str]
              simpa using hm'
    · cases e
  · cases e
section
variable {X : Cx} {a b : Expr} {ma mb : ME}
theorem iE_idxL {apos cpos : Pos} (ha : PE X a (tI (zn X) ma)) (hb : PE X b (tI (zn X) mb))
    (hbase : attributeBase a "index" X.env (eval a X.env) = eval a X.env := by rfl)
    (hfew : ((backTo cpos (starEach [b] X.env)).all (fun x => !x.1) && (backToKw cpos (keywordEach [] X.env)).all (fun x => x.1.isSome)
      && decide (([b] : List Expr).length + ([] : List Keyword).length + (if ([] : List Keyword).isEmpty then 0 else 1) < 30)) = true := by rfl)
    (hline : (apos.endLine == cpos.line) = true := by rfl) (hs : starEach [b] X.env = (false, eval b X.env) :: starEach [] X.env := by rfl) (hp : (backTo cpos (starEach [] X.env)).any (·.1) = false := by rfl) :
    PE X (.Call (.Attribute a "index" apos) [b] [] cpos) (tI (zn X) (mIdxL ma mb)) := pe_mono (pe_bm PySem.F.plainAttrs_list PySem.F.slot_list_index PySem.F.type_list_index mt_index ha (iA_cons hb iA_nil hs) hbase hfew hline hs hp) fun σ H Q => re_idxL
end
section
variable {X : Cx} {e : Expr} {Z : Zn} {x y : ME}
theorem gIdxL (h : PE X e (tI Z (mIdxL x y))) : PE X e (tI Z (mIdxL x y)) := h
end
end Ol
set_option Elab.async false
set_option linter.all false
set_option maxRecDepth 100000
set_option maxHeartbeats 4000000
namespace Ol
open PySem PySem.Spec PyProof.Rows L2
/-! a comprehension with two fors; range with the step -1; sorted of ints -/
def compM (own vs1 : List Nat) (g : MG) (c : MT) (it1 : MI) (g1 : MG) (c1 : MT) (elt : ME) : List D → Env → List D → Option (List D × Env)
  | [], e, acc => some (acc, e)
  | x :: r, e, acc => (g (.d x) e).bind fun e1 => (c e1).bind fun b => if b.1 = true then (it1 b.2).bind fun z => (compL vs1 g1 c1 elt z.1 (wipeE z.2 vs1) acc).bind fun y => compM own vs1 g c it1 g1 c1 elt r (wipeE y.2 own) y.1 else compM own vs1 g c it1 g1 c1 elt r (wipeE b.2 own) acc
def mComp2 (own : List (Str × Nat)) (vs1 : List Nat) (g : MG) (it : MI) (c : MT) (g1 : MG) (it1 : MI) (c1 : MT) (elt : ME) : ME := fun env => (it env).bind fun x => (compM (own.map (·.2)) vs1 g c it1 g1 c1 elt x.1 (wipeE x.2 (own.map (·.2))) []).bind fun z => some (.new (.lst z.1), restE x.2 z.2 (own.map (·.2)))
section
variable {Z : Zn} {B : Bs} {S : Addr → Prop} {D : Addr} {Hk H1 Hc Hb H Hb' H' : Hp} {τ σ' σ : L2.St} {env env' e e' : Env} {acc : List Ol.D} {vs : List Nat}
/-- within a comprehension: the state, seen from its start (where D was free) -/
structure Wn (Z : Zn) (B : Bs) (S : Addr → Prop) (D : Addr) (Hk H1 Hc : Hp) (τ : L2.St) (env : Env) (Hb H : Hp) (acc : List Ol.D) : Prop where
  st : Sta Z B Hb H τ env
  kc : Ex Hc Hb
  ny : Ny S Hk H1 Hb H
  ow : ∀ p, Ow env τ p → S p
  dd : ∃ xs, H D = some (.lst xs) ∧ DpAll Z.K Hb xs acc
  nb : Hb D = none
  h0 : B.H0 D = none
theorem Wn.go (nS : ¬ S D) (w : Wn Z B S D Hk H1 Hc τ env Hb H acc) (g : Go Z B τ env Hb H env' Hb' H') : Wn Z B S D Hk H1 Hc τ env' Hb' H' acc := by
  obtain ⟨xs, d1, d2⟩ := w.dd
  exact ⟨g.st, w.kc.trans g.ny.kb, w.ny.trans (g.ny.mono w.ow), fun p h => w.ow p (g.ow p h), ⟨xs, g.ny.kh D _ (fun z => nS (w.ow D z)) d1, DpAll.ex g.ny.kb d2⟩, g.ny.fr D (by rw [d1]; simp) w.nb, w.h0⟩
theorem Wn.nx (w : Wn Z B S D Hk H1 Hc τ env Hb H acc) (n : Nx Hb H Hb' H') : Wn Z B S D Hk H1 Hc τ env Hb' H' acc := by
  obtain ⟨xs, d1, d2⟩ := w.dd
  exact ⟨w.st.step n, w.kc.trans n.kb, w.ny.trans n.to, w.ow, ⟨xs, n.kh D _ id d1, DpAll.ex n.kb d2⟩, n.fr D (by rw [d1]; simp) w.nb, w.h0⟩
theorem ow_wipe {p : Addr} (h : Ow (wipeE e vs) (L2.wipe σ' vs) p) : Ow e σ' p := by
  obtain ⟨j, bb, oo, z1, z2⟩ := h
  obtain ⟨z3, z4⟩ := wipeE_some z1
  exact ⟨j, bb, oo, z3, by rw [wipe_out z4] at z2; exact z2⟩
theorem Wn.wipe (w : Wn Z B S D Hk H1 Hc σ' env Hb H acc) (hw : L2.wipe σ' vs = L2.wipe τ vs) : Wn Z B S D Hk H1 Hc (L2.wipe τ vs) (wipeE env vs) Hb H acc := by
  have z := w.st.wipe vs
  refine ⟨by rw [hw] at z; exact z, w.kc, w.ny, fun p h => w.ow p (ow_wipe (by rw [hw]; exact h)), w.dd, w.nb, w.h0⟩
theorem Wn.re (w : Wn Z B S D Hk H1 Hc τ env Hb H acc) : Wn Z B S D Hk H1 Hb τ env Hb H acc := ⟨w.st, .rfl, w.ny, w.ow, w.dd, w.nb, w.h0⟩
/-- the store and the tests of a turn -/
theorem wn_turn {g : MG} {is : List Nat} {c : MT} {x : V} {d : Ol.D} {e3 e4 : Env} {b : Bool} {R : L2.St → Bool → Hp → Prop} (hi : ∀ i ∈ is, i ∈ vs) (w : Wn Z B S D Hk H1 Hc (L2.wipe τ vs) env Hb H acc) (hx : Dp Z.K Hb x d) (h3 : g (.d d) env = some e3) (h4 : c e3 = some (b, e4)) (nS : ¬ S D)
    (k : ∀ σ' Hb' H', L2.wipe σ' vs = L2.wipe τ vs → Wn Z B S D Hk H1 Hc σ' e4 Hb' H' acc → R σ' b H') :
    tG Z is g x (L2.wipe τ vs) H fun σ2 H2 => L2.wipe σ2 vs = L2.wipe τ vs ∧ tIT Z c σ2 H2 (R σ2) := by
  refine ⟨B, Hb, H, env, .d d, e3, w.st, own_some w.st, w.st.h0, .d hx, h3, fun σ' s4 hwp how => ?_⟩
  have hw := hwp vs hi
  rw [wipe_wipe] at hw
  have ow4 : ∀ p, Ow e3 σ' p → S p := fun p hp => by
    rcases how p hp with q | q
    · exact w.ow p q
    · exact absurd q (own_some s4 p hp)
  have w4 : Wn Z B S D Hk H1 Hc σ' e3 Hb H acc := ⟨s4, w.kc, w.ny, ow4, w.dd, w.nb, w.h0⟩
  exact ⟨hw, B, Hb, e3, b, e4, s4, h4, fun Hb5 H5 g5 => k σ' Hb5 H5 hw (w4.go nS g5)⟩
/-- the element of a turn -/
theorem wn_elt {elt : ME} {y0 : PV} {e5 : Env} {d : Ol.D} {N : Hp → Prop} (nS : ¬ S D) (hD : H1 D = none) (w : Wn Z B S D Hk H1 Hc σ env Hb H acc) (h6 : elt env = some (y0, e5)) (h7 : fz y0 = some d) (hz : acc.length < 100000)
    (k : ∀ Hb' H', Wn Z B S D Hk H1 Hc σ e5 Hb' H' (acc ++ [d]) → N H') :
    tI Z elt σ H fun y H2 => ∃ a, H2 D = some (.lst a) ∧ a.length < sizeLine ∧ N (upd H2 D (.lst (a ++ [y]))) := by
  refine ⟨B, Hb, env, y0, e5, w.st, h6, fun v Hb6 H6 g6 rv => ?_⟩
  obtain ⟨xs, d5, c3⟩ := w.dd
  have w6 := w.go nS g6
  have d6 : H6 D = some (.lst xs) := g6.ny.kh D _ (fun z => nS (w.ow D z)) d5
  have hxs : xs.length = acc.length := DpAll.length c3
  refine ⟨xs, d6, Nat.lt_of_lt_of_le (by rw [hxs]; exact hz) (by decide), ?_⟩
  obtain ⟨Hb7, kn, kz, dv⟩ : ∃ Hb7, Kn H Hb6 H6 Hb7 ∧ Hb7 D = none ∧ Dp Z.K Hb7 v d := by
    cases rv with
    | d a => cases h7; exact ⟨Hb6, ⟨.rfl, g6.st.sub, fun _ _ z => z⟩, w6.nb, a⟩
    | new a b1 c =>
      rename_i p o
      cases c with
      | lst y1 y2 =>
        cases h7
        refine ⟨_, ⟨Ex.new b1, upd_ex g6.st.sub y1, fun y w1 w2 => ?_⟩, ?_, .lst (.inl (.of upd_same)) (DpAll.ex (Ex.new b1) y2)⟩
        · rw [upd_ne (fun w => w1 (by rw [w]; exact a))]; exact w2
        · rw [upd_ne (fun w => by rw [← w, d5] at a; cases a)]; exact w6.nb
      | set _ => cases h7
      | dic _ _ _ => cases h7
      | dit _ _ => cases h7
    | slot a => cases h7
    | tup a t => cases h7
  have g7 := g6.know w.st kn
  have w7 := w.go nS g7
  have nOw : ¬ Ow e5 σ D := fun z => nS (w7.ow D z)
  refine k Hb7 _ ⟨w7.st.updN w7.h0 kz nOw, w7.kc, w7.ny.upd hD kz, w7.ow, ⟨_, upd_same, DpAll.append (DpAll.ex (g6.ny.kb.trans kn.kb) c3) (.cons dv .nil)⟩, kz, w7.h0⟩
theorem wipe_sub {us vs : List Nat} {τ : L2.St} (hv : ∀ i ∈ us, i ∈ vs) : L2.wipe (L2.wipe τ us) vs = L2.wipe τ vs := by
  apply List.ext_getElem?
  intro j
  by_cases hj : j ∈ vs
  · rw [wipe_at hj, wipe_at hj, wipe_length]
  · rw [wipe_out hj, wipe_out hj, wipe_out fun m => hj (hv j m)]
theorem wn_iter {it : MI} {ds : List Ol.D} {R : It → Hp → Prop} (nS : ¬ S D) (w : Wn Z B S D Hk H1 Hc σ env Hb H acc) (h : it env = some (ds, e')) (k : ∀ J Hb' H', Wn Z B S D Hk H1 Hc σ e' Hb' H' acc → ItR Z J ds Hb' → R J H') : tII Z it σ H R :=
  ⟨B, Hb, env, ds, e', w.st, h, fun J Hb' H' g r => k J Hb' H' (w.go nS g) r⟩
theorem loop_it {J : It} {n : Nat} {G : Hp → Prop} {Y : Nat → Hp → V → Hp → Prop} (w : Walk J n G Y) {Body : (Hp → Prop) → V → Hp → Prop} {Qd : Hp → Prop} {Hs : Hp} (Pv : Nat → Hp → Prop) (h0 : Pv 0 Hs) (hG : ∀ i H, i ≤ n → Pv i H → G H)
    (hs : ∀ i x H H', i < n → Pv i H → Y i H x H' → Body (Pv (i + 1)) x H') (hd : ∀ H, Pv n H → Qd H) :
    ∃ W : Nat → Nat → Hp → Prop, (∃ m, W 0 m Hs) ∧ ∀ i m H, W i m H → (J.stop i H ∧ Qd H) ∨ (J.go i H ∧ ∃ Nx : Hp → Prop, (∀ H', Nx H' → ∃ m', m' < m ∧ W (i + 1) m' H') ∧ ∀ x H', J.yld i H x H' → Body Nx x H') := by
  refine ⟨fun i m H => m = n - i ∧ i ≤ n ∧ Pv i H, ⟨n, by simp, Nat.zero_le _, h0⟩, ?_⟩
  rintro i m H ⟨rfl, hi, p⟩
  have q := hG i H hi p
  by_cases hlt : i < n
  · exact .inr ⟨w.goes i H hlt q, Pv (i + 1), fun H' p' => ⟨n - (i + 1), by omega, rfl, hlt, p'⟩, fun x H' y => hs i x H H' hlt p (w.yields i H x H' hlt q y)⟩
  · have e : i = n := by omega
    subst e
    exact .inl ⟨w.stops H q, hd H p⟩
theorem re_comp2 {own vs1 is is1 : List Nat} {g g1 : MG} {it it1 : MI} {c c1 : MT} {elt : ME} {ow : List (Str × Nat)} {Q : VK} (how : ow.map (·.2) = own) (hv : ∀ i ∈ vs1, i ∈ own) (hi : ∀ i ∈ is, i ∈ own) (hi1 : ∀ i ∈ is1, i ∈ vs1) (h : tI Z (mComp2 ow vs1 g it c g1 it1 c1 elt) σ H Q) :
    tLc2 (tII Z it) (tG Z is g) (tIT Z c) (tII Z it1) (tG Z is1 g1) (tIT Z c1) (tI Z elt) own vs1 σ H Q := by
  obtain ⟨B, Hb, env, pv, env', st, e, q⟩ := h
  unfold mComp2 at e
  rw [how] at e
  simp only [Option.bind_eq_some_iff] at e
  obtain ⟨⟨ds, e1⟩, ha, ⟨res, ez⟩, h2, h3⟩ := e
  cases h3
  refine ⟨B, Hb, env, ds, e1, st, ha, fun J Hk H1 g1' wi => ?_⟩
  intro D hD
  obtain ⟨G, Y, wk, hG, hY⟩ := wi
  have stW := g1'.st.wipe own
  have hDb : Hk D = none := g1'.st.sub.free hD
  have hD0 : B.H0 D = none := g1'.st.h0 D hD
  have nS : ¬ Ow (wipeE e1 own) (L2.wipe σ own) D := fun z => own_some stW D z hD
  refine loop_it wk (fun i H => ∃ Hb env acc, Wn Z B (Ow (wipeE e1 own) (L2.wipe σ own)) D Hk H1 Hk (L2.wipe σ own) env Hb H acc ∧ compM own vs1 g c it1 g1 c1 elt (ds.drop i) env acc = some (res, ez))
    ⟨Hk, wipeE e1 own, [], ⟨stW.updN hD0 hDb nS, .rfl, (Ny.refl g1'.st.sub).upd hD hDb, fun _ z => z, ⟨[], upd_same, .nil⟩, hDb, hD0⟩, by simpa using h2⟩
    (fun i H hi ⟨Hb, env, acc, s, _⟩ => hG H (s.kc.trans s.st.sub)) (fun i x H2 H3 hlt ⟨Hb2, env2, acc, s2, hf⟩ y => ?_) (fun H2 ⟨Hb2, env2, acc, s2, hf⟩ => ?_)
  · obtain ⟨Hb3, d, n, hd, hx⟩ := hY i Hb2 H2 x H3 hlt s2.kc s2.st.sub y
    rw [drop_cons hlt] at hf
    have ed : ds[i] = d := by
      have z := List.getElem?_eq_getElem hlt
      rw [hd] at z
      exact (Option.some.inj z).symm
    rw [ed] at hf
    simp only [compM, Option.bind_eq_some_iff] at hf
    obtain ⟨e3, h3, ⟨b, e4⟩, h4, h5⟩ := hf
    have s3 := s2.nx n
    refine wn_turn hi s3 hx h3 h4 nS fun σ' Hb5 H5 hw w5 => ?_
    cases b with
    | false =>
      simp only [Bool.false_eq_true, if_false] at h5 ⊢
      exact ⟨Hb5, _, acc, w5.wipe hw, h5⟩
    | true =>
      simp only [if_true, Option.bind_eq_some_iff] at h5 ⊢
      obtain ⟨⟨ds1, e5⟩, h6, ⟨res1, e6⟩, h7, h8⟩ := h5
      refine wn_iter nS w5 h6 fun J1 Hk1 Hd1 w6 wi1 => ?_
      obtain ⟨G1, Y1, wk1, hG1, hY1⟩ := wi1
      refine loop_it wk1 (fun j H => ∃ Hb env acc, Wn Z B (Ow (wipeE e1 own) (L2.wipe σ own)) D Hk H1 Hk1 (L2.wipe σ' vs1) env Hb H acc ∧ Ex Hk Hk1 ∧ compL vs1 g1 c1 elt (ds1.drop j) env acc = some (res1, e6))
        ⟨Hk1, wipeE e5 vs1, acc, (w6.wipe rfl).re, w6.kc, by simpa using h7⟩
        (fun i H hi ⟨Hb, env, acc, s, _⟩ => hG1 H (s.kc.trans s.st.sub)) (fun j x1 H7 H8 hlt1 ⟨Hb7, env7, acc7, s7, kk, hf1⟩ y1 => ?_) (fun H7 ⟨Hb7, env7, acc7, s7, kk, hf1⟩ => ?_)
      · obtain ⟨Hb8, d1, n1, hd1, hx1⟩ := hY1 j Hb7 H7 x1 H8 hlt1 s7.kc s7.st.sub y1
        rw [drop_cons hlt1] at hf1
        have ed1 : ds1[j] = d1 := by
          have z := List.getElem?_eq_getElem hlt1
          rw [hd1] at z
          exact (Option.some.inj z).symm
        rw [ed1] at hf1
        simp only [compL, Option.bind_eq_some_iff] at hf1
        obtain ⟨e9, h9, ⟨b1, e10⟩, h10, h11⟩ := hf1
        have s8 := s7.nx n1
        refine wn_turn hi1 s8 hx1 h9 h10 nS fun σ3 Hb9 H9 hw3 w9 => ?_
        cases b1 with
        | false =>
          simp only [Bool.false_eq_true, if_false] at h11 ⊢
          exact ⟨Hb9, _, acc7, w9.wipe hw3, kk, h11⟩
        | true =>
          simp only [if_true, Option.bind_eq_some_iff] at h11 ⊢
          obtain ⟨⟨y0, e11⟩, h12, d', h13, h14⟩ := h11
          split at h14
          · rename_i hz
            exact wn_elt (N := fun H' => ∃ Hb env acc, Wn Z B (Ow (wipeE e1 own) (L2.wipe σ own)) D Hk H1 Hk1 (L2.wipe σ' vs1) env Hb H' acc ∧ Ex Hk Hk1 ∧ compL vs1 g1 c1 elt (ds1.drop (j + 1)) env acc = some (res1, e6)) nS hD w9 h12 h13 hz fun Hb10 H10 w10 => ⟨Hb10, _, _, w10.wipe hw3, kk, h14⟩
          · cases h14
      · rw [List.drop_eq_nil_of_le (Nat.le_refl _)] at hf1
        cases hf1
        have hw4 : L2.wipe (L2.wipe σ' vs1) own = L2.wipe σ own := by rw [← hw]; exact wipe_sub hv
        have w8 := s7.wipe (vs := own) (τ := σ) hw4
        exact ⟨Hb7, _, _, ⟨w8.st, kk.trans w8.kc, w8.ny, w8.ow, w8.dd, w8.nb, w8.h0⟩, h8⟩
  · rw [List.drop_eq_nil_of_le (Nat.le_refl _)] at hf
    cases hf
    obtain ⟨xs, c1, c3⟩ := s2.dd
    exact q (.ref D) Hb2 H2 (g1'.trans (Go.rest g1'.st ⟨s2.ny, s2.st, s2.ow⟩)) (.new (g1'.ny.back D hD) s2.nb (.lst c1 c3))
end
/-! range(a, b, -1) -/
def downD (i : Int) (n : Nat) : List D := (List.range n).map fun (k : Nat) => .int (i + (k : Int) * (-1))
section
variable {Z : Zn} {σ : L2.St} {H Hb : Hp}
theorem itr_down {lo : Int} {n : Nat} : ItR Z (Itc lo (-1) n) (downD lo n) Hb := by
  refine ⟨fun _ => True, YFn (fun i => .int (lo + (i : Nat) * (-1))), ?_, fun H e => trivial, fun i Hb1 H x H' hi e1 e2 y => ?_⟩
  · unfold downD; rw [List.length_map, List.length_range]; exact walk_rangeC
  · obtain ⟨rfl, rfl⟩ := y
    have hi' : i < n := by simpa [downD] using hi
    exact ⟨Hb1, .int (lo + (i : Nat) * (-1)), .refl e2, by simp [downD, hi'], .int _⟩
def mRange3 (a : MA) : MI := fun env => (a env).bind fun xs => match xs.1 with
  | [.d (.int i), .d (.int j), .d (.int c)] => if c = -1 ∧ (-(2 ^ 62) ≤ i ∧ i < 2 ^ 62) ∧ -(2 ^ 62) ≤ j ∧ j < 2 ^ 62 then some (downD i (i - j).toNat, xs.2) else none
  | _ => none
theorem ri_range3 {a : MA} {R : It → Hp → Prop} (h : tII Z (mRange3 a) σ H R) : iRng3 (tIA Z a) σ H R := by
  obtain ⟨B, Hb, env, ds, env', st, e, q⟩ := h
  simp only [mRange3, Option.bind_eq_some_iff] at e
  obtain ⟨⟨xs, e1⟩, ha, e⟩ := e
  refine ⟨B, Hb, env, xs, e1, st, ha, fun vs ps Hb1 H1 g1 rv => ?_⟩
  split at e
  · rename_i x1 i j c hx
    have hx' : xs = _ := hx
    subst hx'
    split at e
    · rename_i cc
      obtain ⟨rfl, c1, c2⟩ := cc
      cases e
      cases rv with
      | d a t =>
        cases a
        cases t with
        | d a t =>
          cases a
          cases t with
          | d a t =>
            cases a
            cases t
            exact ⟨i, j, -1, _, rfl, RgC.neg c1.1 c1.2 c2.1 c2.2, q _ Hb1 H1 g1 itr_down⟩
    · cases e
  · cases e
/-! sorted(xs), whole numbers, any number of them -/
def oSortL : List RV → Option PV
  | [.d (.list ds)] => (intsOf ds).bind fun zs => some (.new (.lst ((sortI zs).map .int)))
  | _ => none
theorem s_sortL : OpN Z (rSortedI Z.K) oSortL := by
  intro Hb H vs rs pv e rr h Q q
  unfold oSortL at h
  split at h
  · obtain ⟨v, rfl, r⟩ := rdrs1 rr
    cases r with
    | lst s t =>
      simp only [Option.bind_eq_some_iff] at h
      obtain ⟨zs, h1, h2⟩ := h
      cases h2
      have hd := intsOf_eq h1
      subst hd
      have hv := DpAll.ints_inv t
      subst hv
      refine ⟨_, zs, rfl, s, fun ns' p hp hr hn => ?_⟩
      have ey := sortI_of hp hr
      subst ey
      exact q _ _ _ (Nx.newOwn e hn) (.new hn (e.free hn) (.lst upd_same (DpAll.ints _)))
  · cases h
end
section
variable {X : Cx} {Z : Zn} {tg tg1 a b c0 e iter iter1 elt : Expr} {p pos : Pos} {mas : MA} {g g1 : MG} {is is1 vs1 : List Nat} {mi mi1 : MI} {mt mt1 : MT} {ma : ME} {ifs ifs1 : List Expr} {scope : Scope} {own : List (Str × Nat)} {m : MI} {l : MA}
theorem iI_range3 (hg : Gl X "range") (hm : X.mg "range" = none) (ha : PA X [a, b, c0] (tIA (zn X) mas)) (hs : starEach [a, b, c0] X.env = (false, eval a X.env) :: starEach [b, c0] X.env := by rfl) (hpl : (backTo pos (starEach [b, c0] X.env)).any (·.1) = false := by rfl) : PI X tg (.Call (.Name "range" p) [a, b, c0] [] pos) (tII (zn X) (mRange3 mas)) :=
  ⟨fun pins s σ H R I q => (pi_range3 hg hm ha hs hpl).run pins s σ H R I (ri_range3 q)⟩
theorem iE_lc2 (hc : X.calm = true) (hN : X.N.Nodup) (hi : PI X tg iter (tII (zn X) mi)) (ok : BlkOk X.N X.env.scope scope own)
    (hg : ∀ (s : Shared) (H : Hp) (C : Addr) (cl : List (Str × Addr)) (fp : List Addr), PG (X.blk s H scope (compEnvC scope cl C X.env) fp) tg (tG (zn X) is g)) (ht : ∀ (s : Shared) (H : Hp) (C : Addr) (cl : List (Str × Addr)) (fp : List Addr), PTs (X.blk s H scope (compEnvC scope cl C X.env) fp) ifs (tIT (zn X) mt))
    (hi1 : ∀ (s : Shared) (H : Hp) (C : Addr) (cl : List (Str × Addr)) (fp : List Addr), PI (X.blk s H scope (compEnvC scope cl C X.env) fp) tg1 iter1 (tII (zn X) mi1))
    (hg1 : ∀ (s : Shared) (H : Hp) (C : Addr) (cl : List (Str × Addr)) (fp : List Addr), PG (X.blk s H scope (compEnvC scope cl C X.env) fp) tg1 (tG (zn X) is1 g1)) (ht1 : ∀ (s : Shared) (H : Hp) (C : Addr) (cl : List (Str × Addr)) (fp : List Addr), PTs (X.blk s H scope (compEnvC scope cl C X.env) fp) ifs1 (tIT (zn X) mt1))
    (he : ∀ (s : Shared) (H : Hp) (C : Addr) (cl : List (Str × Addr)) (fp : List Addr), PE (X.blk s H scope (compEnvC scope cl C X.env) fp) elt (tI (zn X) ma)) (hv : ∀ i ∈ vs1, i ∈ own.map (·.2)) (his : ∀ i ∈ is, i ∈ own.map (·.2)) (his1 : ∀ i ∈ is1, i ∈ vs1) (hs : ∀ x, foldedSetIterable iter X.env x = pure x := by intro _; rfl) (hs1 : ∀ env x, foldedSetIterable iter1 env x = pure x := by intro _ _; rfl) :
    PE X (.ListComp elt [⟨tg, iter, ifs, 0⟩, ⟨tg1, iter1, ifs1, 0⟩] scope pos) (tI (zn X) (mComp2 own vs1 g mi mt g1 mi1 mt1 ma)) := pe_mono (pe_lc2 (vs1 := vs1) hc hN hi ok hv hg ht hi1 hg1 ht1 he hs hs1) fun σ H Q => re_comp2 rfl hv his his1
theorem gI3 (h : PI X tg e (tII Z (mRange3 l))) : PI X tg e (tII Z (mRange3 l)) := h
theorem gLc2 (h : PE X e (tI Z (mComp2 own vs1 g mi mt g1 mi1 mt1 ma))) : PE X e (tI Z (mComp2 own vs1 g mi mt g1 mi1 mt1 ma)) := h
end
end Ol
set_option Elab.async false
set_option linter.all false
namespace Ol
open PySem PySem.Spec PyProof.Rows L2
section
variable {X : Cx} {Z : Zn}
theorem cE {e : Expr} {t : TE} (h : PE X e t) : PE X e t := h
theorem cT {e : Expr} {t : TT} (h : PT X e t) : PT X e t := h
theorem cA {es : List Expr} {t : TA} (h : PA X es t) : PA X es t := h
theorem cK {ks : List Keyword} {t : TA} (h : PK X ks t) : PK X ks t := h
theorem cS {s : Stmt} {t : TS} (h : PS X s t) : PS X s t := h
theorem cSs {s : List Stmt} {t : TS} (h : PSs X s t) : PSs X s t := h
theorem cM2 {e : Expr} {f : RV → RV → Option PV} {x y : ME} (h : PE X e (tI Z (m2 f x y))) : PE X e (tI Z (m2 f x y)) := h
theorem cB {e : Expr} {f : List RV → Option PV} {l : MA} (h : PE X e (tI Z (mB f l))) : PE X e (tI Z (mB f l)) := h
theorem cMt {e : Expr} {k i : Nat} {f : Ob → List D → Option (PV × Ob)} {l : MA} (h : PE X e (tI Z (mMeth k i f l))) : PE X e (tI Z (mMeth k i f l)) := h
theorem cCh {e : Expr} {f g : RV → RV → Option PV} {x y c : ME} (h : PE X e (tI Z (mChain f g x y c))) : PE X e (tI Z (mChain f g x y c)) := h
theorem cT2 {e : Expr} {f : RV → RV → Option PV} {x y : ME} (h : PT X e (tIT Z (mTest (m2 f x y)))) : PT X e (tIT Z (mTest (m2 f x y))) := h
theorem cTCh {e : Expr} {f g : RV → RV → Option PV} {x y c : ME} (h : PT X e (tIT Z (mTest (mChain f g x y c)))) : PT X e (tIT Z (mTest (mChain f g x y c))) := h
end
end Ol
set_option Elab.async false
set_option linter.all false
set_option maxRecDepth 100000
set_option maxHeartbeats 4000000
namespace Ol
open PySem PySem.Spec PyProof.Rows L2 HT
/-! x[::-1] of a tuple -/
section
variable {pp : Program} {ww : World} {aa : Around} {ee : Value → Shared → Prop} {s : Shared}
theorem adj_rev (n : Nat) : Builtin.Slice.sliceAdjust none none (-1) (n : Int) = ((n : Int) - 1, -1) := by
  simp [Builtin.Slice.sliceAdjust]
theorem plc_rev (n : Nat) : Builtin.Slice.slicePlaces ((n : Int) - 1) (-1) (-1) = n := by
  unfold Builtin.Slice.slicePlaces
  have h1 : ¬ ((-1 : Int) > 0) := by omega
  simp only [h1, if_false, show (-(-1 : Int)) = 1 from rfl, Int.ediv_one]
  split <;> omega
theorem app_rev {z : Addr} {n : Nat} {v : Value} {K : Int × Int × Nat → Shared → Prop} (hz : s.heap.IsSliceOf z .none .none v) (pv : IsPart v (some (-1))) (h : K ((n : Int) - 1, -1, n) s) : wpAny (model pp ww) aa (Builtin.Slice.sliceApplied (.ref z) (pure (n : Int))) K ee s := by
  obtain ⟨ob, q1, q2, q3⟩ := id hz
  unfold Builtin.Slice.sliceApplied Builtin.Slice.sliceFields
  refine wpAny_bind (wpAny_bind (wpAny_field q1 q3 (x := .none) rfl ?_))
  refine wpAny_bind (wpAny_field q1 q3 (x := .none) rfl ?_)
  refine wpAny_bind (wpAny_field q1 q3 (x := v) rfl (wpAny_pure ?_))
  refine wpAny_bind (slicePart_ pv ?_)
  show wpAny _ _ (if ((-1 : Int) == 0) = true then _ else _) _ _ s
  rw [if_neg (by decide)]
  refine wpAny_bind (slicePart_none (wpAny_bind (slicePart_none (wpAny_bind (wpAny_pure ?_)))))
  show wpAny _ _ (match Builtin.Slice.sliceAdjust none none (-1) (n : Int) with | (lo, hi) => pure (lo, (-1 : Int), Builtin.Slice.slicePlaces lo hi (-1))) _ _ s
  rw [adj_rev n]
  show wpAny _ _ (pure ((n : Int) - 1, (-1 : Int), Builtin.Slice.slicePlaces ((n : Int) - 1) (-1) (-1))) _ _ s
  rw [plc_rev]
  exact wpAny_pure h
theorem fm_map {α β : Type} {f : α → Option β} {g : α → β} : ∀ {l : List α}, (∀ x ∈ l, f x = some (g x)) → l.filterMap f = l.map g
  | [], _ => rfl
  | a :: r, h => by
    rw [List.filterMap_cons, h a List.mem_cons_self, List.map_cons, fm_map fun x hx => h x (List.mem_cons_of_mem _ hx)]
theorem pick_rev (xs : Array Value) : ((List.range xs.size).filterMap fun (m : Nat) => xs[((xs.size : Int) - 1 + (m : Int) * (-1)).toNat]?).toArray = xs.toList.reverse.toArray := by
  congr 1
  have e : (List.range xs.size).filterMap (fun (m : Nat) => xs[((xs.size : Int) - 1 + (m : Int) * (-1)).toNat]?) = (List.range xs.size).map fun m => xs.toList.reverse.getD m .none := by
    refine fm_map fun m hm => ?_
    rw [List.mem_range] at hm
    have : ((xs.size : Int) - 1 + (m : Int) * (-1)).toNat = xs.size - 1 - m := by omega
    rw [this, List.getD_eq_getElem?_getD, List.getElem?_reverse (by simpa using hm)]
    simp [Array.getElem?_eq_getElem, show xs.size - 1 - m < xs.size by omega]
  rw [e]
  apply List.ext_getElem?
  intro i
  rw [List.getElem?_map]
  by_cases h : i < xs.size
  · rw [List.getElem?_range h]
    simp only [Option.map_some, List.getD_eq_getElem?_getD]
    rw [List.getElem?_eq_getElem (by simpa using h)]
    rfl
  · rw [List.getElem?_eq_none (by simpa using h), List.getElem?_eq_none (by simpa using h)]
    rfl
theorem get_rev {t z : Addr} {xs : Array Value} {v : Value} {K : Value → Shared → Prop} (ht : IsTup s.heap t xs) (hz : s.heap.IsSliceOf z .none .none v) (pv : IsPart v (some (-1)))
    (h : K (.ref s.heap.objs.size) { s with heap := s.heap.push { cls := .type "tuple", data := .seq xs.toList.reverse.toArray } }) (hn : xs.size ≤ sizeLine) : wpAny (model pp ww) aa (getItem (.ref t) (.ref z)) K ee s := by
  have fits : sizeOk (.seq xs.toList.reverse.toArray) := by
    show xs.toList.reverse.toArray.size ≤ sizeLine
    rw [List.size_toArray, List.length_reverse, Array.length_toList]
    exact hn
  obtain ⟨ob, q1, q2, q3⟩ := id hz
  have tz : s.TypeIs (.ref z) "slice" := ⟨ob, q1, q2⟩
  unfold getItem
  try with_reducible refine wpAny_holding ?_
  first | refine wpAny_bind (wpAny_pure ?_) | skip
  refine wpAny_bind (wpAny_sequenceKey ht.typeIs (by decide) ?_)
  refine wpAny_bind (wpAny_callSpecial?_slot (name := Str.ofString "__getitem__") ht.typeIs PyProof.Rows.slot_tuple_getitem (wpAny_call_entry PyProof.Rows.slot_tuple_getitem ht.typeIs entry_tuple_getitem ?_ (args_tuple_getitem _ _)))
  show wpAny _ _ (Builtin.Tuple.tupleItemsOf (.ref t) >>= _) _ _ s
  refine wpAny_bind (tupleItemsOf_ ht (wpAny_bind (wpAny_typeOf tz ?_)))
  rw [if_pos (by decide)]
  refine wpAny_bind (app_rev hz pv ?_)
  have no : ¬ (((xs.size : Int) - 1 == 0 && (-1 : Int) == 1 && xs.size == xs.size) = true) := by
    intro q
    rw [Bool.and_eq_true, Bool.and_eq_true] at q
    have := q.1.2
    cases this
  show wpAny _ _ (if ((xs.size : Int) - 1 == 0 && (-1 : Int) == 1 && xs.size == xs.size) = true then _ else _) _ _ s
  rw [if_neg no, pick_rev]
  first
    | exact wpAny_bind (m := Builtin.Tuple.tupleExact _) (wpAny_newObj_type (wpAny_pure ⟨_, rfl, wpAny_pure h⟩) fits)
    | exact wpAny_bind (m := Builtin.Tuple.tupleExact _) (wpAny_newObj_type (wpAny_bind (wpAny_pure (wpAny_pure ⟨_, rfl, wpAny_pure h⟩))) fits)
    | exact wpAny_bind (wpAny_bind (m := Builtin.Tuple.tupleExact _) (wpAny_newObj_type (wpAny_pure (wpAny_pure ⟨_, rfl, wpAny_pure h⟩)) fits))
    | exact wpAny_bind (wpAny_bind (m := Builtin.Tuple.tupleExact _) (wpAny_newObj_type (wpAny_pure ⟨_, rfl, wpAny_pure h⟩) fits))
end
section
variable {X : Cx} {e : Expr}
def tRevT (K : PySem.W.Frag) (te : TE) (ts : TO) : TE := fun σ H Q => te σ H fun x H1 => ts σ H1 fun u H2 => u = some (-1) ∧ ∃ a xs, x = .ref a ∧ SqT K H2 a xs ∧ NewT H2 xs.reverse Q
theorem pe_revT {st : Expr} {te : TE} {ts : TO} {p2 pos : Pos} (he : PE X e te) (hu : PO X (some st) ts) (hsub : ∀ v sl : Value, subscripted (.Slice none none (some st) p2) false v sl = operate [v, sl] (getItem v sl) := by intros; rfl) : PE X (.Subscript e (.Slice none none (some st) p2) pos) (tRevT X.K te ts) := by
  refine ⟨fun pins s σ H Q I h => ?_⟩
  refine Subscript_ (thn (he.run pins s σ H _ I h) fun v s1 ⟨x, H1, I1, r1, q1⟩ => ?_)
  refine wpAny_Slice ?_
  rw [evalPart_none]
  refine wpAny_pure (wpAny_pure ?_)
  refine thn (hu.run pins s1 σ H1 _ I1 q1) fun vu s3 ⟨u, H3, I3, pu, q3⟩ => ?_
  obtain ⟨rfl, a, xs, rfl, hx, q⟩ := q3
  cases r1
  have I4 : Inv X pins σ H3 { s3 with heap := s3.heap.push { cls := .type "slice", data := .fields #[.none, .none, vu] } } := I3.kept (t' := s3.toks) fun b ob q => Heap.get?_push_of_some _ q
  obtain ⟨its, r, ht, hz⟩ := I4.tuple hx
  have hlen := r.length
  have isl : Heap.IsSliceOf (s3.heap.push { cls := .type "slice", data := .fields #[.none, .none, vu] }) s3.heap.objs.size .none .none vu := Heap.IsSliceOf.new ..
  have hg : wpAny (model X.prog X.w) X.A (getItem (.ref a) (.ref s3.heap.objs.size)) (EP X pins σ Q) X.xe { s3 with heap := s3.heap.push { cls := .type "slice", data := .fields #[.none, .none, vu] } } := by
    refine get_rev ht isl pu ?_ (by rw [List.size_toArray]; omega)
    exact newT_at I4 r.reverse (by rw [List.length_reverse]; exact hz) q
  exact tail_any (ops := [.ref a, .ref s3.heap.objs.size]) ht.typeIs PyProof.Rows.slot_tuple_getitem.lookup hg (hsub _ _)
end
end Ol
set_option Elab.async false
set_option linter.all false
set_option maxRecDepth 100000
set_option maxHeartbeats 4000000
namespace Ol
open PySem PySem.Spec PyProof.Rows L2
/-! x[::-1] of a tuple -/
def oRevT : RV → Option PV
  | .d (.tuple ds) => some (.d (.tuple ds.reverse))
  | _ => none
theorem re_revT {Z : Zn} {σ : L2.St} {H : Hp} {a : ME} {Q : VK} (h : tI Z (m1 oRevT a) σ H Q) : tRevT Z.K (tI Z a) (tIO Z (mP (m1 oNeg (mC (.int 1))))) σ H Q := by
  obtain ⟨B, Hb, env, pv, env', st, e, q⟩ := h
  simp only [m1, Option.bind_eq_some_iff] at e
  obtain ⟨⟨x, e1⟩, ha, r, h1, p, h2, h3⟩ := e
  cases h3
  refine ⟨B, Hb, env, x, _, st, ha, fun v Hb1 H1 g1 rv => ⟨B, Hb1, _, some (-1), _, g1.st, rfl, fun Hb2 H2 g2 => ⟨rfl, ?_⟩⟩⟩
  have rv1 := rv.keep (fun p hp => own_some st p (g1.ow p hp)) g2.ny
  have w := rv1.rd g2.st h1
  unfold oRevT at h2
  split at h2
  · cases w with
    | tup s t nn =>
      cases h2
      refine ⟨_, _, rfl, sqt_ex g2.st.sub s, fun p ob hp hob => ?_⟩
      exact q _ _ _ ((g1.trans g2).nx (Nx.new g2.st.sub hp)) (.d (.tup sqt_new (DpAll.ex (Ex.new (g2.st.sub.free hp)) (DpAll.reverse t)) fun _ => NoD.of hob))
  · cases h2
section
variable {X : Cx} {a : Expr} {ma : ME} {p p1 p2 pos : Pos}
theorem iE_revT {kk : Nat} (ha : PE X a (tI (zn X) ma)) : PE X (.Subscript a (.Slice none none (some (.UnaryOp .USub (.Constant (.int 1) kk p) p1)) p2) pos) (tI (zn X) (m1 oRevT ma)) :=
  pe_mono (pe_revT ha (iO_some (iE_neg iE_int))) fun σ H Q => re_revT
end
/-! while -/
def whL : Nat → MT → MS → MS
  | 0, _, _ => fun _ => none
  | n + 1, t, s => fun env => (t env).bind fun k => if k.1 = true then (s k.2).bind fun r => match r with
      | .nx e => whL n t s e
      | .ct e => whL n t s e
      | .bk e => some (.nx e)
      | .ret v e => some (.ret v e)
    else some (.nx k.2)
def mWhile (t : MT) (s : MS) : MS := whL 300 t s
theorem rs_while {Z : Zn} {t : MT} {s : MS} {D : Ends} {σ : L2.St} {H : Hp} (h : tS Z (mWhile t s) D σ H) : tWhile (tIT Z t) (tS Z s) D σ H := by
  refine ⟨fun m σ H => tS Z (whL m t s) D σ H, ⟨300, h⟩, fun m σ H hh => ?_⟩
  obtain ⟨B, Hb, env, r, st, e, q⟩ := hh
  cases m with
  | zero => cases e
  | succ m =>
    simp only [whL, Option.bind_eq_some_iff] at e
    obtain ⟨⟨k, e1⟩, ht, h2⟩ := e
    refine ⟨B, Hb, env, k, e1, st, ht, fun Hb1 H1 g1 => ?_⟩
    cases k with
    | true =>
      simp only [if_true, Option.bind_eq_some_iff] at h2
      obtain ⟨r1, h3, h4⟩ := h2
      refine (if_pos (rfl : true = true)).mpr ⟨fun σ' H' => tS Z (whL m t s) D σ' H', fun σ' H' w => ⟨m, Nat.lt_succ_self m, w⟩, B, Hb1, e1, r1, g1.st, h3, ?_⟩
      cases r1 with
      | nx e2 => exact fun σ2 Hb2 H2 s2 w2 => ⟨B, Hb2, e2, r, s2, h4, q.more (g1.ny.kb.trans w2)⟩
      | ct e2 => exact fun σ2 Hb2 H2 s2 w2 => ⟨B, Hb2, e2, r, s2, h4, q.more (g1.ny.kb.trans w2)⟩
      | bk e2 => cases h4; exact fun σ2 Hb2 H2 s2 w2 => q σ2 Hb2 H2 s2 (g1.ny.kb.trans w2)
      | ret v e2 => cases h4; exact fun v σ2 Hb2 H2 s2 w2 => q v σ2 Hb2 H2 s2 (g1.ny.kb.trans w2)
    | false =>
      simp only [Bool.false_eq_true, if_false] at h2
      cases h2
      exact (if_neg Bool.false_ne_true).mpr (q σ Hb1 H1 g1.st g1.ny.kb)
section
variable {X : Cx} {c : Expr} {body : List Stmt} {mt : MT} {ms : MS} {pos : Pos}
theorem iS_while (hp : PassesOwn (model X.prog X.w) X.A X.env X.xe) (hc : PT X c (tIT (zn X) mt)) (hb : PSs X body (tS (zn X) ms)) : PS X (.While c body [] pos) (tS (zn X) (mWhile mt ms)) := ps_mono (ps_while hp hc hb) fun D σ H => rs_while
end
section
variable {X : Cx} {e : Expr} {st : Stmt} {Z : Zn} {x : ME} {t : MT} {s : MS}
theorem gWh (h : PS X st (tS Z (mWhile t s))) : PS X st (tS Z (mWhile t s)) := h
end
end Ol
set_option Elab.async false
set_option linter.all false
set_option maxRecDepth 100000
set_option maxHeartbeats 4000000
/-! own: dicts with tuples of texts as keys, in the language -/
namespace Ol
open PySem PySem.Spec PyProof.Rows L2
def hasS (kvs : List (List Str × D)) (k : List Str) : Bool := kvs.any fun q => decide (q.1 = k)
def putS (kvs : List (List Str × D)) (k : List Str) (d : D) : List (List Str × D) := if hasS kvs k = true then kvs.map (fun q => if q.1 = k then (q.1, d) else q) else kvs ++ [(k, d)]
def mergeS : List (List Str × D) → List (List Str × D) → List (List Str × D)
  | acc, [] => acc
  | acc, q :: r => mergeS (putS acc q.1 q.2) r
def mNewT : ME := fun env => some (.new (.dit []), env)
def fSetT : Ob → D → D → Option Ob
  | .dit kvs, .tuple ds, d => (strsOf ds).bind fun k => if kvs.length < 100000 then some (.dit (putS kvs k d)) else none
  | _, _, _ => none
def oInT (neg : Bool) : RV → RV → Option PV
  | .d (.tuple ds), .t kvs => (strsOf ds).bind fun k => some (bD (neg ^^ hasS kvs k))
  | _, _ => none
def oListT : List RV → Option PV
  | [.t kvs] => some (.new (.lst (kvs.map fun q => .tuple (q.1.map .str))))
  | _ => none
def pairOf : D → Option (List Str × D)
  | .tuple [.tuple ds, v] => (strsOf ds).bind fun k => some (k, v)
  | _ => none
def pairsOf : List D → Option (List (List Str × D))
  | [] => some []
  | d :: r => (pairOf d).bind fun p => (pairsOf r).bind fun ps => some (p :: ps)
def oDictT : List RV → Option PV
  | [.d (.list ds)] => (pairsOf ds).bind fun ps => some (.new (.dit (mergeS [] ps)))
  | _ => none
section
variable {K : Fg} {Hb H : Hp} {ks : KE3} {kvs : List (List Str × D)}
theorem key_dp {b : Addr} {k : List Str} (e : Ex Hb H) (h : Dp K Hb (.ref b) (.tuple (k.map .str))) : SqT K H b ((k.map (Sum.inr : Str → Key)).map kV) := by
  cases h with
  | tup s t _ =>
    rw [DpAll.strs_inv t] at s
    rw [List.map_map]
    exact sqt_ex e s
theorem dtR_kns (e : Ex Hb H) (r : DtR K Hb ks kvs) : Kns K H ks := by
  induction r with
  | nil => intro q hq; cases hq
  | cons a _ _ ih =>
    intro q hq
    rcases List.mem_cons.mp hq with rfl | hq
    · exact key_dp e a
    · exact ih q hq
theorem inr_inj {a b : List Str} : a.map (Sum.inr : Str → Key) = b.map Sum.inr ↔ a = b := by
  constructor
  · intro h
    have := congrArg (List.map fun x : Key => match x with | .inr s => s | .inl _ => ⟨#[]⟩) h
    simpa [List.map_map, Function.comp_def] using this
  · rintro rfl; rfl
theorem dtR_has (r : DtR K Hb ks kvs) (k : List Str) : hasT ks (k.map .inr) = hasS kvs k := by
  induction r with
  | nil => rfl
  | @cons k1 b v d ks kvs a c _ ih =>
    have h1 : hasT ((k1.map .inr, b, v) :: ks) (k.map .inr) = (decide (k1.map (Sum.inr : Str → Key) = k.map .inr) || hasT ks (k.map .inr)) := rfl
    have h2 : hasS ((k1, d) :: kvs) k = (decide (k1 = k) || hasS kvs k) := rfl
    rw [h1, h2, ih, decide_eq_decide.mpr inr_inj]
theorem dtR_put {k : List Str} {b : Addr} {v : V} {d : D} (r : DtR K Hb ks kvs) (hk : Dp K Hb (.ref b) (.tuple (k.map .str))) (hv : Dp K Hb v d) : DtR K Hb (putT ks (k.map .inr) b v) (putS kvs k d) := by
  unfold putT putS
  rw [dtR_has r k]
  by_cases c : hasS kvs k = true
  · rw [if_pos c, if_pos c]
    clear c
    induction r with
    | nil => exact .nil
    | @cons k1 b1 v1 d1 ks kvs a1 c1 _ ih =>
      rw [List.map_cons, List.map_cons]
      by_cases z : k1 = k
      · subst z
        simp only [if_true]
        exact .cons a1 hv ih
      · have z2 : ¬ k1.map (Sum.inr : Str → Key) = k.map .inr := fun w => z (inr_inj.mp w)
        simp only [z, z2, if_false]
        exact .cons a1 c1 ih
  · rw [if_neg c, if_neg c]
    clear c
    induction r with
    | nil => exact .cons hk hv .nil
    | cons a1 c1 _ ih => exact .cons a1 c1 ih
theorem dtR_merge {ps : KE3} {qs : List (List Str × D)} (r : DtR K Hb ps qs) : ∀ {ks : KE3} {kvs : List (List Str × D)}, DtR K Hb ks kvs → DtR K Hb (mergeT ks ps) (mergeS kvs qs) := by
  induction r with
  | nil => exact fun t => t
  | cons a c _ ih => exact fun t => ih (dtR_put t a c)
theorem dtR_len (r : DtR K Hb ks kvs) : ks.length = kvs.length := by
  induction r with
  | nil => rfl
  | cons _ _ _ ih => simp [ih]
theorem dtR_keys (r : DtR K Hb ks kvs) : DpAll K Hb (ks.map fun q => V.ref q.2.1) (kvs.map fun q => .tuple (q.1.map .str)) := by
  induction r with
  | nil => exact .nil
  | cons a _ _ ih => exact .cons a ih
theorem putS_len (kvs : List (List Str × D)) (k : List Str) (d : D) : (putS kvs k d).length ≤ kvs.length + 1 := by
  unfold putS
  split <;> simp
theorem pairs_dp {vs : List V} {ds : List D} (e : Ex Hb H) : ∀ {qs : List (List Str × D)}, DpAll K Hb vs ds → pairsOf ds = some qs → ∃ (ps : List Addr) (ks : KE3), vs = ps.map V.ref ∧ Paired (fun p q => SqT K H p [.ref q.2.1, q.2.2]) ps ks ∧ DtR K Hb ks qs := by
  induction ds generalizing vs with
  | nil =>
    intro qs h f
    cases h
    cases f
    exact ⟨[], [], rfl, .nil, .nil⟩
  | cons d ds ih =>
    intro qs h f
    simp only [pairsOf, Option.bind_eq_some_iff] at f
    obtain ⟨p, f1, qs', f2, f3⟩ := f
    cases f3
    cases h with
    | cons a t =>
      obtain ⟨ps, ks, rfl, h1, h2⟩ := ih t f2
      unfold pairOf at f1
      split at f1
      · simp only [Option.bind_eq_some_iff] at f1
        obtain ⟨k, g1, g2⟩ := f1
        cases g2
        have hk := strsOf_eq g1
        subst hk
        cases a with
        | @tup pa xs _ s u _ =>
          cases u with
          | cons u1 u2 =>
            cases u2 with
            | cons u3 u4 =>
              cases u4
              cases u1 with
              | @tup b ys _ w1 w2 w3 =>
                exact ⟨pa :: ps, (k.map .inr, b, _) :: ks, rfl, .cons (sqt_ex e s) h1, .cons (.tup w1 w2 w3) u3 h2⟩
      · cases f1
end
section
variable {Z : Zn}
theorem s_inT (neg : Bool) : Op2 Z (rInT Z.K Z.P Z.w neg) (oInT neg) := by
  intro Hb H x y dx dy pv e rx ry h Q q
  unfold oInT at h
  split at h
  · rename_i ds kvs
    simp only [Option.bind_eq_some_iff] at h
    obtain ⟨k, h1, h2⟩ := h
    cases h2
    have hk := strsOf_eq h1
    subst hk
    cases ry with
    | t ow =>
      cases ow with
      | @dit _ ks w1 w2 =>
        cases rx with
        | tup s t n =>
          refine ⟨_, ks, k.map .inr, _, rfl, rfl, w1, key_dp e (.tup s t n), dtR_kns e w2, ?_⟩
          rw [dtR_has w2]
          exact q _ _ _ (.refl e) (vrB _)
  · cases h
theorem s_listT : OpN Z (fun xs H Q => ∃ d ks, xs = [V.ref d] ∧ H d = some (DtO Z.P Z.w d ks) ∧ ∀ p, H p = none → Q (.ref p) (upd H p (.lst (ks.map fun q => V.ref q.2.1)))) oListT := by
  intro Hb H vs rs pv e rr h Q q
  unfold oListT at h
  split at h
  · cases h
    obtain ⟨v, rfl, r⟩ := rdrs1 rr
    cases r with
    | t ow =>
      cases ow with
      | dit w1 w2 => exact ⟨_, _, rfl, w1, fun p hp => q _ _ _ (Nx.newOwn e hp) (.new hp (e.free hp) (.lst upd_same (dtR_keys w2)))⟩
  · cases h
theorem s_dictT : OpN Z (rDictT Z.K Z.P Z.w) oDictT := by
  intro Hb H vs rs pv e rr h Q q
  unfold oDictT at h
  split at h
  · simp only [Option.bind_eq_some_iff] at h
    obtain ⟨qs, h1, h2⟩ := h
    cases h2
    obtain ⟨v, rfl, r⟩ := rdrs1 rr
    cases r with
    | @lst p xs _ s t =>
      obtain ⟨ps, ks, rfl, h3, h4⟩ := pairs_dp e t h1
      exact ⟨p, ps, ks, rfl, s, h3, dtR_kns e h4, fun p hp => q _ _ _ (Nx.newOwn e hp) (.new hp (e.free hp) (.dit upd_same (dtR_merge h4 .nil)))⟩
  · cases h
theorem t_setT : OpS Z (rSetT Z.K Z.P Z.w) fSetT := by
  intro Hb H p o k x dk d o' e ow hb hk hx h Q q
  unfold fSetT at h
  split at h
  · simp only [Option.bind_eq_some_iff] at h
    obtain ⟨kk, h1, h2⟩ := h
    split at h2
    · rename_i hl
      cases h2
      have hs := strsOf_eq h1
      subst hs
      cases ow with
      | @dit _ ks w1 w2 =>
        cases hk with
        | @tup b ys _ s t n =>
          have hkl := dtR_len w2
          refine ⟨p, ks, kk.map .inr, b, rfl, rfl, w1, key_dp e (.tup s t n), dtR_kns e w2, Nat.lt_of_lt_of_le (by rw [hkl]; exact hl) (by decide), q _ (.dit upd_same (dtR_put w2 (.tup s t n) hx))⟩
    · cases h2
  · cases h
theorem re_newT {σ : L2.St} {H : Hp} {Q : VK} (h : tI Z mNewT σ H Q) : tDtNew Z.P Z.w σ H Q := by
  obtain ⟨B, Hb, env, pv, env', st, e, q⟩ := h
  cases e
  exact fun p hp => q _ _ _ ((Go.refl st).nx (Nx.newOwn st.sub hp)) (.new hp (st.sub.free hp) (.dit upd_same .nil))
end
section
variable {X : Cx} {a b : Expr} {es : List Expr} {ma mb : ME} {mas : MA} {pos p : Pos} {i : Nat} {x : Str}
theorem gSx (f : Ob → D → D → Option Ob) {Z : Zn} {st : Stmt} {i : Nat} {x y : ME} (h : PS X st (tS Z (mSetIx i f x y))) : PS X st (tS Z (mSetIx i f x y)) := h
theorem gNewT {e : Expr} (h : PE X e (tI (zn X) mNewT)) : PE X e (tI (zn X) mNewT) := h
theorem iE_newT : PE X (.Dict [] [] pos) (tI (zn X) mNewT) := pe_mono pe_dtNew fun σ H Q => re_newT
theorem iS_setIxT {o : Expr} (hu : X.A.units + 1 < cLine) (ho : PE X o (tVar i)) (hi : PE X b (tI (zn X) mb)) (he : PE X a (tI (zn X) ma)) 
    (ha : ∀ v, assign (.Subscript o b p) X.env v = (do
      let ov ← holding [v] (eval o X.env)
      let iv ← holding [v, ov] (eval b X.env)
      standAt p
      holding [v, ov, iv] (setItem ov iv v)
      release [v, ov, iv] []) := by intro _; rfl) (hs : swapsWithSole [.Subscript o b p] a pos.line X.env = pure false := by rfl) (hw : swappedStores [.Subscript o b p] a X.env = pure none := by rfl) (h1 : (assignEach [.Subscript o b p] X.env).map (·.2) = [assign (.Subscript o b p) X.env] := by rfl) :
    PS X (.Assign [.Subscript o b p] a pos) (tS (zn X) (mSetIx i fSetT mb ma)) := ps_mono (ps_asg he (pg_sub ho hi (set_dt hu) ha) hs hw h1) fun D σ H => rs_setIx t_setT
theorem room3 {k : Nat} {A : Around} (r : Room k A) : A.units + 1 < cLine := by have := r.units; omega
theorem room4 {k : Nat} {A : Around} (r : Room k A) : A.units + 3 < cLine := by have := r.units; omega
end
end Ol
set_option Elab.async false
set_option linter.all false
set_option maxRecDepth 100000
set_option maxHeartbeats 4000000
/-! own: functions that are called where no repr is under way (guards: none) -/
namespace Ol
open PySem PySem.Spec PyProof.Rows L2
/-- what a def promises where nothing is guarded -/
structure FnG (P : Program) (w : World) (K : PySem.W.Frag) (mg : Str → Option Value) (base : Heap) (CX : CXT) (k : Nat) (f : Addr) (fd : FuncData) (ps : List Str) (sp : Sp) : Prop where
  len : ∀ vs H Q E, sp vs H Q E → vs.length = ps.length
  run : ∀ (A : Around) (outer : List PySem.Env) (s : Shared) (H : Hp) (args : Args) (us : List Value) (vs : List V) (Q : VK) (E : XK), A.guards = some [] → Room k A → Env0 P w K mg base A outer s H → BindsTo s fd args (ps.zip us) → Vals vs us → sp vs H Q E →
    codeAny (model P w) A (.call (.ref f) args) (CR CX outer P w H s Q E) s
section
variable {P : Program} {w : World} {K : PySem.W.Frag} {mg : Str → Option Value} {base : Heap} {CX : CXT} {k : Nat} {f : Addr} {fd : FuncData} {ps N : List Str} {sp sp' : Sp}
theorem FnG.of (F : FnOk P w K mg base CX k f fd ps sp) : FnG P w K mg base CX k f fd ps sp := ⟨F.len, fun A outer s H args us vs Q E _ r e b v q => F.run A outer s H args us vs Q E r e b v q⟩
theorem FnG.imp (F : FnG P w K mg base CX k f fd ps sp) (h : ∀ vs H Q E, sp' vs H Q E → sp vs H Q E) : FnG P w K mg base CX k f fd ps sp' :=
  ⟨fun vs H Q E q => F.len vs H Q E (h vs H Q E q), fun A outer s H args us vs Q E g r e b v q => F.run A outer s H args us vs Q E g r e b v (h vs H Q E q)⟩
theorem FnG.mono {j : Nat} (F : FnG P w K mg base CX k f fd ps sp) (h : k ≤ j) : FnG P w K mg base CX j f fd ps sp :=
  ⟨F.len, fun A outer s H args us vs Q E g r e b v q => F.run A outer s H args us vs Q E g (r.mono h) e b v q⟩
/-- by the body -/
theorem okG {x qual : Str} {params : Arguments} {body : List Stmt} {scope : Scope} {dvs : List V} {kws : List (Str × V)} (F : FunD K x qual params body scope dvs kws f fd) (S : FnScope N ps scope) (len : ∀ vs H Q E, sp vs H Q E → vs.length = ps.length)
    (hbody : ∀ (cdv : Value) (A : Around) (outer : List PySem.Env) (s : Shared) (H : Hp) (vs : List V) (Q : VK) (E : XK), A.guards = some [] → Room k (A.deeper (envOfC qual scope s.heap.objs.size f cdv)) → sp vs H Q E →
      ∃ t, PSs (cxOf CX P w K mg base N qual scope f cdv A outer s H E) body t ∧ t { nx := fun _ H' => Q .non H', rt := Q } (start N vs) H) : FnG P w K mg base CX (k + 1) f fd ps sp := by
  obtain ⟨oc, od, dV, kV, doc, pm, an, cdv, ct, osl, rfl, lk, hcd, _, _⟩ := F.ex
  refine ⟨len, ?_⟩
  intro A outer s H args us vs Q E hg hr e0 hb rv hsp
  have hl := len vs H Q E hsp
  have up : ∀ b o, base.get? b = some o → s.heap.get? b = some o := fun b o e => (e0.bs b o e).1
  have KX : K.In s.heap := e0.mod.kin.keeps up
  have lim : s.heap.NoLimit := e0.mod.nolimit.keeps up
  refine codeAny_call_function hr.depth (KX _ _ lk) rfl S.co S.gen rfl (PySem.W.codeRec_of KX hcd) (hb _ _ _ _ ?_)
  refine wpAny_newFunctionEnv_cells S.kind (fun y hy => ?_) fun env he s1 x1 => ?_
  · obtain ⟨n, v⟩ := y
    have hn := (List.of_mem_zip hy).1
    rcases S.par n hn with q | q
    · exact .inl q
    · exact .inr ⟨q, PySem.W.cellsFrom_some _ _ _ (.inl q)⟩
  · subst he
    refine ⟨lim.keeps x1.toInCall.keep, codeAny_func ?_⟩
    obtain ⟨t, ht, hq⟩ := hbody cdv A outer s H vs Q E hg (hr.deeper _) hsp
    have I := inv_start (CX := CX) (E := E) S hr.hd e0 hl rv x1
    refine wpAny_mono (ht.run [] s1 (start N vs) H _ I hq) (fun fl s' hs => ?_) fun e s' hs => hs
    cases fl with
    | ret u =>
      obtain ⟨v, σ', H', J, r, q⟩ := hs
      exact ⟨v, H', J.os, J.bare, J.base, J.hok, r, q⟩
    | next =>
      obtain ⟨σ', H', J, q⟩ := hs
      exact ⟨.non, H', J.os, J.bare, J.base, J.hok, (rfl : Value.none = Value.none), q⟩
    | brk =>
      obtain ⟨_, _, _, q⟩ := hs
      exact q.elim
    | cont =>
      obtain ⟨_, _, _, q⟩ := hs
      exact q.elim
end
/-- the heap in which the script alone is told -/
def scrH (a : Addr) (vs : List Value) (ns : List Int) : Hp := fun b => if b = a then some (.frz { cls := .type "list", data := .seq vs.toArray } (.lst (ns.map V.int))) else none
section
variable {P : Program} {w : World} {K : PySem.W.Frag} {mg mb : Str → Option Value} {CX : CXT} {k : Nat} {fa a : Addr} {fd : FuncData} {x : Str} {sp : Sp} {s₁ : Shared} {vs : List Value} {ns : List Int} {H : Hp}
/-- the call from an abstract heap that tells of the script alone -/
theorem call_from (KX : K.In s₁.heap) (hns : s₁.heap.Ns mainGlobals mg) (hb : s₁.heap.Ns builtinsNs mb) (hbb : ∀ x : Str, x ≠ "__name__" → mb x = bootBuiltins x) (hlim : s₁.heap.NoLimit) (hg : s₁.gens = #[])
    (ha : s₁.heap.get? a = some { cls := .type "list", data := .seq vs.toArray }) (hr : Room k callerA) (F : ∀ base : Heap, K.In base → base.Ns mainGlobals mg → FnG P w K mg base CX k fa fd [x] sp) (hbind : ∀ (s : Shared) (u : Value), BindsTo s fd ⟨[u], []⟩ [(x, u)])
    (hsp : sp [.ref a] H (fun v _ => v = .bl true) fun _ _ _ => False) (hCX : ∀ H e s', CX [] H s₁ (fun _ _ _ => False) e s' → False) (hO : Only H) (ok : HOk P w H s₁.heap) (hA : ∀ b, H b ≠ none → b = a) (hK : H a ≠ none → K.lookup a = none) :
    codeAny (model P w) callerA (.call (.ref fa) ⟨[.ref a], []⟩) (fun r s' => r = .ok (.ret (.bool true)) ∧ OldK s₁.heap s'.heap ∧ s'.os = s₁.os ∧ AllBare s'.gens) s₁ := by
  have off : ∀ {b : Addr} {o : Obj}, s₁.heap.get? b = some o → b ≠ a ∨ H a = none → (hidT s₁.heap H).get? b = some o := fun {b o} e c => hidT_get e (by
    cases q : H b with
    | none => rfl
    | some u =>
      have z := hA b (by rw [q]; simp)
      rcases c with c | c
      · exact absurd z c
      · rw [z] at q; rw [q] at c; cases c)
  have notD : ∀ {b : Addr} {o : Obj} {es : Array DictEntry} {ep : Nat}, s₁.heap.get? b = some o → o.data = .dict es ep → b ≠ a := fun {b o es ep} e d z => by
    rw [z, ha] at e
    cases e
    exact nomatch d
  have ns' : ∀ {b : Addr} {m : Str → Option Value}, s₁.heap.Ns b m → (hidT s₁.heap H).Ns b m := fun {b m} ⟨o, es, ep, e, d, r⟩ => ⟨o, es, ep, off e (.inl (notD e d)), d, r⟩
  have kin : K.In (hidT s₁.heap H) := fun b o e => off (KX b o e) (by
    by_cases z : b = a
    · refine .inr ?_
      cases q : H a with
      | none => rfl
      | some u =>
        have := hK (by rw [q]; simp)
        rw [z, this] at e
        cases e
    · exact .inl z)
  have md : Mod K mg (hidT s₁.heap H) := ⟨kin, ns' hns, ⟨mb, ns' hb, hbb⟩, by
    obtain ⟨mc, h1, h2⟩ := hlim
    exact ⟨mc, ns' h1, h2⟩⟩
  have e0 : Env0 P w K mg (hidT s₁.heap H) callerA [] s₁ H := ⟨rfl, md, fun b o e => of_hidT e, Nat.le_of_eq (hidT_size _ _), trivial, (fun b hb => by cases hb), ok, .of_eq hg⟩
  have run := (F _ kin (ns' hns)).run callerA [] s₁ H ⟨[.ref a], []⟩ [.ref a] [.ref a] _ _ rfl hr e0 (hbind s₁ (.ref a)) (.cons rfl .nil) hsp
  refine codeAny_mono run fun r s' h => ?_
  rcases r with e | fl
  · exact (hCX H e s' h).elim
  · cases fl with
    | next => exact False.elim h
    | brk => exact False.elim h
    | cont => exact False.elim h
    | ret u =>
      obtain ⟨v, H', os, bare, un, ok', r', q⟩ := h
      have q' : v = .bl true := q
      subst q'
      cases (show u = Value.bool true from r')
      refine ⟨rfl, OldK.of_keep fun b o e => ?_, os, bare⟩
      cases q2 : H b with
      | none => exact un.keep b o e q2 (by intro z; cases z) (by simp)
      | some u =>
        rcases hO b with z | ⟨ob, xs, z⟩
        · rw [q2] at z; cases z
        · have z2 := un.frzs b ob _ z
          have e1 := (ok b _ z).1
          have e2 := (ok' b _ z2).1
          rw [e] at e1
          cases e1
          exact e2
theorem law_callG (KX : K.In s₁.heap) (hns : s₁.heap.Ns mainGlobals mg) (hb : s₁.heap.Ns builtinsNs mb) (hbb : ∀ x : Str, x ≠ "__name__" → mb x = bootBuiltins x) (hlim : s₁.heap.NoLimit) (hg : s₁.gens = #[])
    (ha : s₁.heap.get? a = some { cls := .type "list", data := .seq vs.toArray }) (hi : IntsAre vs ns) (hl : ns.length ≤ sizeLine) (hr : Room k callerA) (F : ∀ base : Heap, K.In base → base.Ns mainGlobals mg → FnG P w K mg base CX k fa fd [x] sp) (hbind : ∀ (s : Shared) (u : Value), BindsTo s fd ⟨[u], []⟩ [(x, u)])
    (hsp : ∀ H : Hp, Only H → SqL K H a (ns.map V.int) → sp [.ref a] H (fun v _ => v = .bl true) fun _ _ _ => False) (hCX : ∀ H e s', CX [] H s₁ (fun _ _ _ => False) e s' → False) :
    codeAny (model P w) callerA (.call (.ref fa) ⟨[.ref a], []⟩) (fun r s' => r = .ok (.ret (.bool true)) ∧ OldK s₁.heap s'.heap ∧ s'.os = s₁.os ∧ AllBare s'.gens) s₁ := by
  have rv := vals_ints hi
  have lv := hi.length
  cases hk : K.lookup a with
  | some o =>
    have e := KX a o hk
    rw [ha] at e
    cases e
    have hO : Only fun _ => none := fun b => .inl rfl
    refine call_from (H := fun _ => none) KX hns hb hbb hlim hg ha hr F hbind (hsp _ hO (.inr ⟨_, vs.toArray, _, hk, rfl, rfl, rfl, by rw [List.size_toArray, lv]; exact hl, by simpa using rv⟩)) hCX hO (fun b u z => by cases z) (fun b z => absurd rfl z) fun z => absurd rfl z
  | none =>
    have at' : scrH a vs ns a = some (.frz { cls := .type "list", data := .seq vs.toArray } (.lst (ns.map V.int))) := if_pos rfl
    have hO : Only (scrH a vs ns) := fun b => by
      by_cases z : b = a
      · exact .inr ⟨_, _, if_pos z⟩
      · exact .inl (if_neg z)
    refine call_from (H := scrH a vs ns) KX hns hb hbb hlim hg ha hr F hbind (hsp _ hO (.inl (.inr ⟨_, at'⟩))) hCX hO (fun b u z => ?_) (fun b z => ?_) fun _ => hk
    · by_cases q : b = a
      · subst q
        rw [at'] at z
        cases z
        exact ⟨ha, by rw [List.length_map]; exact hl, vs, _, rv, ha⟩
      · have : scrH a vs ns b = none := if_neg q
        rw [this] at z
        cases z
    · apply Classical.byContradiction
      intro q
      exact z (if_neg q)
end
/-- a law whose own def is called where nothing is guarded -/
theorem walk_ofG {l : PySem.W.OpenLaw} {n k : Nat} {q : Program} {loose : List Str} {XP : (Str → Option Value) → Heap → Prop} {YP : World → Heap → Prop} {d : DefRec} {CX : CXT} {x : Str} (hn : l.most = some n) (hn2 : n ≤ sizeLine) (hdf : d.params.defaults = []) (hr : Room k callerA)
    (F : ∀ (w : World) (mg : Str → Option Value) (fa : Addr) (h : Heap), YP w h → h.Ns mainGlobals mg → mg d.name = some (.ref fa) →
      ∃ (K : PySem.W.Frag) (fd : FuncData) (sp : Sp), K.In h ∧ (∀ (s : Shared) (u : Value), BindsTo s fd ⟨[u], []⟩ [(x, u)]) ∧ (∀ (H : Hp) (a : Addr) (ns : List Int), ns.length ≤ n → Only H → SqL K H a (ns.map V.int) → sp [.ref a] H (fun v _ => v = .bl true) fun _ _ _ => False) ∧
        ∀ base : Heap, K.In base → base.Ns mainGlobals mg → FnG l.prog w K mg base CX k fa fd [x] sp)
    (hCX : ∀ (H : Hp) (s : Shared) (e : Value) (s' : Shared), CX [] H s (fun _ _ _ => False) e s' → False) : PySem.W.WalkO q loose XP YP l.row.toRowW d [] (fun f vs => PySem.call f vs) := by
  refine Att.attach_call hn hdf fun w s₀ s₁ mg mb fa o pm cd doc a vs ns G Y ho hd hcd hmg hobj hints hlen hg => ?_
  obtain ⟨K, fd, sp, KX, hb, hsp, hF⟩ := F w mg fa s₁.heap Y G.T.g hmg
  exact law_callG KX G.T.g G.T.b G.T.builtins G.T.nolimit hg hobj hints (Nat.le_trans hlen hn2) hr hF hb (fun H hO hS => hsp H a ns hlen hO hS) fun H e s' => hCX H s₁ e s'
end Ol
set_option Elab.async false
set_option linter.all false
set_option maxRecDepth 100000
set_option maxHeartbeats 4000000
/-! own: repr of data where nothing is guarded -/
namespace Ol
open PySem PySem.Spec PyProof.Rows L2
def okShow (d : D) : Bool := (match d with | .list _ => true | .tuple _ => true | _ => false) && d.showable && !d.hasDict && decide (d.depth ≤ 40) && decide (d.shown.length ≤ 100000)
theorem okShow_nd {d : D} (h : okShow d = true) : d.hasDict = false := by
  unfold okShow at h
  simp only [Bool.and_eq_true, Bool.not_eq_true', decide_eq_true_eq] at h
  exact h.1.1.2
def rRepr (K : PySem.W.Frag) : List V → Hp → VK → Prop := fun xs H Q => ∃ v d, xs = [v] ∧ L2.Dp K H v d ∧ okShow d = true ∧ Q (.str d.shown) H
theorem cr_repr {X : Cx} (hg : X.A.guards = some []) (hu : X.A.units + 64 < cLine) : CallR X (.builtin "repr") (rRepr X.K) := by
  intro pins s σ H xs us Q I r h
  obtain ⟨v, d, rfl, hd, ok, q⟩ := h
  obtain ⟨u, rfl, rx⟩ := vals1 r
  unfold okShow at ok
  simp only [Bool.and_eq_true, Bool.not_eq_true', decide_eq_true_eq] at ok
  obtain ⟨⟨⟨⟨o1, o2⟩, o3⟩, o4⟩, o5⟩ := ok
  obtain ⟨as, rd⟩ := Dp.reads I d v u hd rx
  have fin : ∀ h' t tk, (∀ b o, s.heap.get? b = some o → h'.get? b = some o) → EP X pins σ Q (.str d.shown t) { s with heap := h', toks := tk } := fun h' t tk kp => ⟨.str d.shown, H, I.kept (t' := tk) kp, ⟨t, rfl⟩, q⟩
  have hz : d.shown.length ≤ sizeLine := Nat.le_trans o5 (by decide)
  cases d with
  | list ds =>
    cases rd with
    | list h1 h2 h3 h4 => exact repr_of_reads' (h₀ := s.heap) (.list h1 h2 h3 h4) o2 (fun z => by rw [o3] at z; cases z) hg (by omega) (fun _ _ e => e) fin hz
  | tuple ds =>
    cases rd with
    | tuple h1 h2 h3 h4 => exact repr_of_reads' (h₀ := s.heap) (.tuple h1 h2 h3 h4) o2 (fun z => by rw [o3] at z; cases z) hg (by omega) (fun _ _ e => e) fin hz
  | _ => cases o1
def oRepr : List RV → Option PV
  | [.d x] => if okShow x = true then some (.d (.str x.shown)) else none
  | _ => none
theorem s_repr {Z : Zn} : OpN Z (rRepr Z.K) oRepr := by
  intro Hb H vs rs pv e rr h Q q
  unfold oRepr at h
  split at h
  · split at h
    · rename_i x ok
      cases h
      obtain ⟨v, rfl, r⟩ := rdrs1 rr
      exact ⟨v, x, rfl, (r.dp e).toL (okShow_nd ok), ok, q _ _ _ (.refl e) (.d (.str _))⟩
    · cases h
  · cases h
/-- == of texts -/
def oEqS : RV → RV → Option PV
  | .d (.str a), .d (.str b) => some (bD (a == b))
  | _, _ => none
def oNeS : RV → RV → Option PV
  | .d (.str a), .d (.str b) => some (bD (!(a == b)))
  | _, _ => none
theorem dec_strV {a b : Str} : decide (V.str a = V.str b) = (a == b) := by
  rw [Bool.eq_iff_iff]
  simp
theorem s_eqS {Z : Zn} : Op2 Z rEq oEqS := by
  intro Hb H x y dx dy pv e rx ry h Q q
  unfold oEqS at h
  split at h
  · cases h
    cases rx
    cases ry
    refine ⟨rfl, ?_⟩
    rw [dec_strV]
    exact q _ _ _ (.refl e) (vrB _)
  · cases h
theorem s_neS {Z : Zn} : Op2 Z rNe oNeS := by
  intro Hb H x y dx dy pv e rx ry h Q q
  unfold oNeS at h
  split at h
  · cases h
    cases rx
    cases ry
    refine ⟨rfl, ?_⟩
    rw [dec_strV]
    exact q _ _ _ (.refl e) (vrB _)
  · cases h
theorem fnG_law {P : Program} {w : World} {K : Fg} {mg : Str → Option Value} {base : Heap} {k : Nat} {f : Addr} {fd : FuncData} {ps : List Str} {F : Fn} {sp : Sp} (h : FnG P w K mg base L2.CX0 k f fd ps (spI ⟨K, P, w⟩ F))
    (hs : ∀ vs H Q E, sp vs H Q E → ∃ (a : Addr) (ns : List Int), vs = [.ref a] ∧ SqL K H a (ns.map V.int) ∧ F [.d (.list (ns.map .int))] = some (.d (.bool true), [none]) ∧ ∀ H', Q (.bl true) H') : FnG P w K mg base L2.CX0 k f fd ps sp := h.imp (law_go hs)
end Ol
set_option Elab.async false
set_option linter.all false
set_option maxRecDepth 100000
set_option maxHeartbeats 4000000
/-! own: sorted of texts, a tuple or a list -/
namespace Ol
open PySem PySem.Spec PySem.Calls PyProof.Rows L2
section
variable {prog : Program} {w : World} {A : Around} {E : Value → Shared → Prop} {s : Shared}
abbrev oneMore (h : Heap) (vs : List Value) : Heap := (h.push (seqObj "list" #[] 0)).update h.objs.size (Obj.mapSeq (· ++ vs.toArray))
theorem coll_tup {l : Addr} {vs : List Value} {Q : List Value → Shared → Prop} (hl : IsTup s.heap l vs.toArray) (hz : vs.length ≤ sizeLine) (q : Q vs { s with heap := oneMore s.heap vs }) : wpAny (model prog w) A (collect (.ref l)) Q E s := by
  obtain ⟨o, ho, hc, n, hd⟩ := id hl
  have kp : (s.heap.push (seqObj "list" #[] 0)).get? l = some o := Heap.get?_push_of_some _ ho
  have nw : (s.heap.push (seqObj "list" #[] 0)).get? s.heap.objs.size = some (seqObj "list" #[] 0) := Heap.get?_push_size _ rfl
  unfold collect
  apply wpAny_bind
  apply wpAny_runValue
  refine codeAny_builtin entry_proto_collect' ?_
  show wpAny _ _ (do again (.builtin "list.__iadd__" ⟨[← newList [], .ref l], []⟩)) _ _ s
  apply wpAny_bind
  refine wpAny_newList ?_
  refine wpAny_pure ⟨Code.quiet_builtin _ (by decide +kernel), codeAny_builtin entry_list_iadd' ?_⟩
  show wpAny _ _ (Builtin.List.listExtendWith (.ref _) (.ref l) (.ref _)) _ _ { s with heap := s.heap.push (seqObj "list" #[] 0) }
  unfold Builtin.List.listExtendWith
  apply wpAny_bind
  refine wpAny_typeOf (T := "tuple") ⟨o, kp, hc⟩ ?_
  rw [if_pos (by simp)]
  apply wpAny_bind
  refine listItems_at kp hd ?_
  apply wpAny_bind
  refine listItems_at (xs := #[]) (n := 0) nw rfl ?_
  rw [if_neg (by simp)]
  apply wpAny_bind
  refine listUpdate_at (xs := #[]) (n := 0) nw rfl ?_ (Nat.zero_le _) ?_
  · apply wpAny_pure
    show wpAny (model prog w) A (do
        let o ← load s.heap.objs.size
        match o.data with
        | .seq xs _ => pure xs.toList
        | _ => unsupported "internal:collect") Q E { s with heap := oneMore s.heap vs }
    apply wpAny_bind
    refine wpAny_load (get?_update_seq nw _) ?_
    have e : ((#[] : Array Value) ++ vs.toArray).toList = vs := by simp
    show wpAny _ _ (pure ((#[] : Array Value) ++ vs.toArray).toList) Q E _
    rw [e]
    exact wpAny_pure q
  · show (#[] ++ vs.toArray).size ≤ sizeLine + 1
    simp only [Array.size_append, List.size_toArray, List.length_nil]
    omega
theorem sorted_tupS {l : Addr} {vs : List Value} {ss : List Str} {Q : Value → Shared → Prop} (hl : IsTup s.heap l vs.toArray) (hS : StrsAre vs ss) (hL : vs.length ≤ sizeLine)
    (h : ∀ (out : Array Value) (ss' : List Str), StrsAre out.toList ss' → ss'.Perm ss → sortedS ss' = true → Q (.ref (s.heap.objs.size + 1)) { s with heap := sortedAll s.heap vs out }) : wpAny (model prog w) A (call (.builtin "sorted") [.ref l]) Q E s := by
  have size : (oneMore s.heap vs).objs.size = s.heap.objs.size + 1 := by rw [Heap.size_update, size_push']
  have there : ((oneMore s.heap vs).push (seqObj "list" vs.toArray 0)).get? (s.heap.objs.size + 1) = some (seqObj "list" vs.toArray 0) := by
    rw [← size]
    exact Heap.get?_push_size _ rfl
  refine Calls.call_function_entry kind_sorted plain_sorted entry_sorted (args_sorted1 _) ?_
  unfold Builtin.«sorted»
  apply wpAny_bind (m := checkCount "sorted" 1 1 _)
  refine wpAny_pure ?_
  apply wpAny_bind
  refine coll_tup hl hL ?_
  apply wpAny_bind
  refine wpAny_newList ?_
  show wpAny _ _ _ _ _ { s with heap := (oneMore s.heap vs).push (seqObj "list" vs.toArray 0) }
  rw [size]
  apply wpAny_bind
  apply wpAny_holding
  refine wpAny_call_entry slot_list_sort ⟨_, there, rfl⟩ entry_list_sort ?_ (args_list_sort _)
  refine list_sort_treeKAny strKind_oneLt there hS.keysOf (fun v₁ v₂ rest e => keyKind_strs (by rw [← e]; exact hS)) hL fun st' hp hs => ⟨_, rfl, ?_⟩
  obtain ⟨ss', h1, h2, h3⟩ := sorted_out_str hS hp hs
  exact wpAny_pure ⟨_, rfl, h _ ss' h1 h2 h3⟩
end
section
variable {X : Cx}
/-- sorted(xs) of texts -/
def rSortT (K : PySem.W.Frag) : List V → Hp → VK → Prop := fun vs H Q => ∃ (a : Addr) (xs : List Str), vs = [V.ref a] ∧ (SqL K H a (xs.map V.str) ∨ SqT K H a (xs.map V.str)) ∧
  ∀ (ys : List Str) (p : Addr), ys.Perm xs → sortedS ys = true → H p = none → Q (.ref p) (upd H p (.lst (ys.map V.str)))
theorem cr_sortT : CallR X (.builtin "sorted") (rSortT X.K) := by
  intro pins s σ H vs us Q I r h
  obtain ⟨a, xs, rfl, hs, q⟩ := h
  rw [Vals.ref1 r]
  have fin : ∀ (its : List Value) (out : Array Value) (ys : List Str), xs.length ≤ sizeLine → StrsAre out.toList ys → ys.Perm xs → sortedS ys = true → EP X pins σ Q (.ref (s.heap.objs.size + 1)) { s with heap := sortedAll s.heap its out } := fun its out ys hz k1 k2 k3 => by
    obtain ⟨ep, at'⟩ := sortedAll_at s.heap its out
    have len : (ys.map V.str).length ≤ sizeLine := by
      rw [List.length_map, k2.length_eq]
      exact hz
    exact ⟨.ref _, upd H (s.heap.objs.size + 1) (.lst (ys.map V.str)), I.laid (t' := s.toks) (fun _ _ => sortedAll_old) (Nat.le_succ _) ⟨len, out.toList, ep, vals_of_strs k1, at'⟩, rfl, q ys _ k2 k3 (I.hok.fresh (Nat.le_succ _))⟩
  rcases hs with hs | hs
  · obtain ⟨its, rv, hl, hz⟩ := I.list hs
    have n := rv.length
    rw [List.length_map] at n hz
    exact sorted_strsAny hl.isList rv.strs (by omega) fun out ys k1 k2 k3 => fin its out ys hz k1 k2 k3
  · obtain ⟨its, rv, hl, hz⟩ := I.tuple hs
    have n := rv.length
    rw [List.length_map] at n hz
    exact sorted_tupS hl rv.strs (by omega) fun out ys k1 k2 k3 => fin its out ys hz k1 k2 k3
end
/-- sorted(xs), texts -/
def oSortS : List RV → Option PV
  | [.d (.list ds)] => (strsOf ds).bind fun zs => some (.new (.lst ((sortS zs).map .str)))
  | [.d (.tuple ds)] => (strsOf ds).bind fun zs => some (.new (.lst ((sortS zs).map .str)))
  | _ => none
theorem s_sortS {Z : Zn} : OpN Z (rSortT Z.K) oSortS := by
  intro Hb H vs rs pv e rr h Q q
  have main : ∀ (a : Addr) (zs : List Str), vs = [.ref a] → (SqL Z.K H a (zs.map V.str) ∨ SqT Z.K H a (zs.map V.str)) → pv = PV.new (Ob.lst ((sortS zs).map PyData.str)) → rSortT Z.K vs H Q := fun a zs ev hs ep => by
    subst ev ep
    refine ⟨a, zs, rfl, hs, fun ys p hp hr hn => ?_⟩
    have ey := sortS_of hp hr
    subst ey
    exact q _ _ _ (Nx.newOwn e hn) (.new hn (e.free hn) (.lst upd_same (DpAll.strs _)))
  unfold oSortS at h
  split at h
  · obtain ⟨v, rfl, r⟩ := rdrs1 rr
    cases r with
    | lst s t =>
      simp only [Option.bind_eq_some_iff] at h
      obtain ⟨zs, h1, h2⟩ := h
      cases h2
      have hd := strsOf_eq h1
      subst hd
      have hv := DpAll.strs_inv t
      subst hv
      exact main _ zs rfl (.inl s) rfl
  · obtain ⟨v, rfl, r⟩ := rdrs1 rr
    cases r with
    | tup s t _ =>
      simp only [Option.bind_eq_some_iff] at h
      obtain ⟨zs, h1, h2⟩ := h
      cases h2
      have hd := strsOf_eq h1
      subst hd
      have hv := DpAll.strs_inv t
      subst hv
      exact main _ zs rfl (.inr (sqt_ex e s)) rfl
  · cases h
end Ol
set_option Elab.async false
set_option linter.all false
set_option maxRecDepth 100000
set_option maxHeartbeats 4000000
/-! own: min of lists of whole numbers -/
namespace Ol
open PySem PySem.Spec PySem.Calls PyProof.Rows L2
/-- items of a heap that stays are compared so -/
def CmpH (h0 : Heap) (prog : Program) (w : World) (A : Around) (P : Nat → Value → Prop) (bt : Nat → Nat → Bool) : Prop :=
  ∀ i j vi vj (s : Shared) (Q : Value → Shared → Prop) (E : Value → Shared → Prop), (∀ b o, h0.get? b = some o → s.heap.get? b = some o) → P i vi → P j vj → Q (.bool (bt i j)) s → wpAny (model prog w) A (richCompare .Lt vi vj) Q E s
section
variable {prog : Program} {w : World} {A : Around} {R : Result → Shared → Prop} {I : Addr} {fp wr : List Addr} {n : Nat} {P : Nat → Value → Prop} {St : Nat → Heap → Prop} {h0 : Heap}
abbrev bestObj (xs : Array Value) (c : Nat) : Obj := { cls := .type "list", dict := none, data := .seq xs c, slots := #[] }
theorem loop_min (W : Walks prog w A.in1 I fp wr n P St) (bt : Nat → Nat → Bool) (cmp : CmpH h0 prog w A.in1 P bt) (S : Addr) (nf : S ∉ fp) (fw : ∀ b ∈ wr, h0.get? b = none) (fS : h0.get? S = none) :
    ∀ (k j : Nat) (s : Shared) (vb : Value) (c : Nat), n - (j + 1) = k → j + 1 ≤ n → St (j + 1) s.heap → P (argBest bt j) vb → (∀ b o, h0.get? b = some o → s.heap.get? b = some o) → s.heap.get? S = some (bestObj #[vb, vb] c) →
    (∀ v h' tk, P (argBest bt (n - 1)) v → (∀ b o, b ∉ wr → b ≠ S → s.heap.get? b = some o → h'.get? b = some o) → R (.ok (.ret v)) { s with heap := h', toks := tk }) →
    codeAny (model prog w) A (.builtin "min.loop" ⟨[.ref I, .none, .ref S], []⟩) R s := by
  have nw : S ∉ wr := fun h => nf (W.sub _ h)
  have nm : (toString "min" ++ toString ".loop" : String) = "min.loop" := by decide
  have notS : ∀ {b : Addr} {o : Obj}, h0.get? b = some o → S ≠ b := fun {b o} h e => by
    rw [← e, fS] at h
    cases h
  have notW : ∀ {b : Addr} {o : Obj}, h0.get? b = some o → b ∉ wr := fun {b o} h e => by
    rw [fw b e] at h
    cases h
  intro k
  induction k with
  | zero =>
    intro j s vb c hk hj st pb old at0 fin
    have hin : j + 1 = n := by omega
    refine codeAny_builtin F.entry_min_loop ?_
    rw [Around.under_plainId F.plain_min_loop _]
    show wpAny _ A.in1 (seqItems? (.ref S) >>= _) _ _ s
    apply wpAny_bind
    refine wpAny_seqItems at0 rfl ?_
    show wpAny _ A.in1 (tryCatch (pyNext (.ref I)) _ >>= _) _ _ s
    apply wpAny_bind
    apply wpAny_tryCatch
    refine W.done s _ _ (hin ▸ st) fun h' tk kp => ?_
    show wpAny _ A.in1 (updateSeq S (fun _ => #[]) >>= _) _ _ _
    apply wpAny_bind
    refine wpAny_updateSeq (kp S _ nw at0) rfl ?_
    apply wpAny_bind
    apply wpAny_letGo
    apply wpAny_pure
    exact fin vb _ tk (by rw [← hin]; exact pb) fun b o hb hS e => (Heap.get?_update_other _ _ (Ne.symm hS)).trans (kp b o hb e)
  | succ k ih =>
    intro j s vb c hk hj st pb old at0 fin
    have lt : j + 1 < n := by omega
    refine codeAny_builtin F.entry_min_loop ?_
    rw [Around.under_plainId F.plain_min_loop _]
    show wpAny _ A.in1 (seqItems? (.ref S) >>= _) _ _ s
    apply wpAny_bind
    refine wpAny_seqItems at0 rfl ?_
    show wpAny _ A.in1 (tryCatch (pyNext (.ref I)) _ >>= _) _ _ s
    apply wpAny_bind
    apply wpAny_tryCatch
    refine W.item (j + 1) s _ _ lt st fun v h' tk hP st' kp => ?_
    have at1 := kp S _ nw at0
    have old' : ∀ b o, h0.get? b = some o → h'.get? b = some o := fun b o e => kp b o (notW e) (old b o e)
    show wpAny _ A.in1 (tryCatch (holding [v, v] (richCompare .Lt v vb >>= _)) _ >>= _) _ _ _
    apply wpAny_bind
    apply wpAny_tryCatch
    apply wpAny_holding
    apply wpAny_bind
    refine cmp (j + 1) (argBest bt j) v vb _ _ _ old' hP pb ?_
    apply wpAny_bind
    apply wpAny_holding
    refine wpAny_truthy_bool ?_
    apply wpAny_bind
    apply wpAny_letGo
    apply wpAny_pure
    cases hb : bt (j + 1) (argBest bt j) with
    | true =>
      simp only [if_true]
      apply wpAny_bind
      refine wpAny_updateSeq at1 rfl ?_
      apply wpAny_bind
      apply wpAny_letGo
      rw [nm]
      refine wpAny_pure ⟨plainId_quiet F.plain_min_loop _, ih (j + 1) _ v _ (by omega) lt (W.frame _ _ _ st' fun b hf o e => ?_) (by simp only [argBest, hb, if_true]; exact hP) (fun b o e => ?_) (Heap.get?_update_self _ at1 rfl) fun v' h2 tk2 hP2 kp2 => ?_⟩
      · exact (Heap.get?_update_other _ _ (fun h : S = b => nf (by rw [h]; exact hf))).trans e
      · exact (Heap.get?_update_other _ _ (notS e)).trans (old' b o e)
      · exact fin v' h2 tk2 hP2 fun b o hw hS e => kp2 b o hw hS ((Heap.get?_update_other _ _ (Ne.symm hS)).trans (kp b o hw e))
    | false =>
      simp only [Bool.false_eq_true, if_false]
      apply wpAny_bind
      apply wpAny_letGo
      rw [nm]
      refine wpAny_pure ⟨plainId_quiet F.plain_min_loop _, ih (j + 1) _ vb c (by omega) lt st' (by simp only [argBest, hb, Bool.false_eq_true, if_false]; exact pb) old' at1 fun v' h2 tk2 hP2 kp2 => ?_⟩
      exact fin v' h2 tk2 hP2 fun b o hw hS e => kp2 b o hw hS (kp b o hw e)
theorem loop_min0 (W : Walks prog w A.in1 I fp wr n P St) (bt : Nat → Nat → Bool) (cmp : CmpH h0 prog w A.in1 P bt) (S : Addr) (nf : S ∉ fp) (fw : ∀ b ∈ wr, h0.get? b = none) (fS : h0.get? S = none) (hn : 0 < n) {s : Shared} {c : Nat} (st : St 0 s.heap) (old : ∀ b o, h0.get? b = some o → s.heap.get? b = some o)
    (at0 : s.heap.get? S = some (bestObj #[] c)) (fin : ∀ v h' tk, P (argBest bt (n - 1)) v → (∀ b o, b ∉ wr → b ≠ S → s.heap.get? b = some o → h'.get? b = some o) → R (.ok (.ret v)) { s with heap := h', toks := tk }) :
    codeAny (model prog w) A (.builtin "min.loop" ⟨[.ref I, .none, .ref S], []⟩) R s := by
  have nw : S ∉ wr := fun h => nf (W.sub _ h)
  have nm : (toString "min" ++ toString ".loop" : String) = "min.loop" := by decide
  have notS : ∀ {b : Addr} {o : Obj}, h0.get? b = some o → S ≠ b := fun {b o} h e => by
    rw [← e, fS] at h
    cases h
  have notW : ∀ {b : Addr} {o : Obj}, h0.get? b = some o → b ∉ wr := fun {b o} h e => by
    rw [fw b e] at h
    cases h
  refine codeAny_builtin F.entry_min_loop ?_
  rw [Around.under_plainId F.plain_min_loop _]
  show wpAny _ A.in1 (seqItems? (.ref S) >>= _) _ _ s
  apply wpAny_bind
  refine wpAny_seqItems at0 rfl ?_
  show wpAny _ A.in1 (tryCatch (pyNext (.ref I)) _ >>= _) _ _ s
  apply wpAny_bind
  apply wpAny_tryCatch
  refine W.item 0 s _ _ hn st fun v h' tk hP st' kp => ?_
  have at1 := kp S _ nw at0
  show wpAny _ A.in1 (updateSeq S (fun _ => #[v, v]) >>= _) _ _ _
  apply wpAny_bind
  refine wpAny_updateSeq at1 rfl ?_
  rw [nm]
  refine wpAny_pure ⟨plainId_quiet F.plain_min_loop _, loop_min W bt cmp S nf fw fS _ 0 _ v _ rfl hn (W.frame _ _ _ st' fun b hf o e => ?_) hP (fun b o e => ?_) (Heap.get?_update_self _ at1 rfl) fun v' h2 tk2 hP2 kp2 => ?_⟩
  · exact (Heap.get?_update_other _ _ (fun h : S = b => nf (by rw [h]; exact hf))).trans e
  · exact (Heap.get?_update_other _ _ (notS e)).trans (kp b o (notW e) (old b o e))
  · exact fin v' h2 tk2 hP2 fun b o hw hS e => kp2 b o hw hS ((Heap.get?_update_other _ _ (Ne.symm hS)).trans (kp b o hw e))
end
section
variable {prog : Program} {w : World} {A : Around} {E : Value → Shared → Prop} {s : Shared}
/-- min of a list whose items are compared so -/
theorem min_listH {l : Addr} {items : Array Value} {bt : Nat → Nat → Bool} {Q : Value → Shared → Prop} (hh : A.handled = none) (hl : s.heap.IsList l items) (hne : 0 < items.size) (cmp : CmpH s.heap prog w A.in1 (fun i v => items[i]? = some v) bt)
    (h : ∀ v h' tk, items[argBest bt (items.size - 1)]? = some v → (∀ b o, s.heap.get? b = some o → h'.get? b = some o) → Q v { s with heap := h', toks := tk }) : wpAny (model prog w) A (call (.builtin "min") [.ref l]) Q E s := by
  have nm : (toString "min" ++ toString ".loop" : String) = "min.loop" := by decide
  have hlt : l < s.heap.objs.size := by obtain ⟨_, e, _⟩ := hl; exact Heap.lt_size e
  refine call_function_tree F.kind_min F.plain_min F.entry_min (F.args_min1 _) ?_
  show wpAny _ A.in1 (Builtin.Builtins.bindParams "min" ["key", "default"] 0 ⟨[], []⟩ >>= _) _ _ s
  apply wpAny_bind
  refine wpAny_of_eq (show Builtin.Builtins.bindParams "min" ["key", "default"] 0 ⟨[], []⟩ = pure [none, none] from rfl) ?_
  apply wpAny_bind
  apply wpAny_pure
  apply wpAny_bind
  refine wpAny_pyIter_list hl ?_
  apply wpAny_bind
  refine wpAny_newObj_type ?_
  rw [nm]
  have it0 : (s.heap.push { cls := .type "list_iterator", data := .fields #[.ref l, .int 0 0] }).IsListIter s.heap.objs.size l 0 := ⟨_, Heap.get?_push_size _ rfl, rfl, rfl⟩
  have sz : (s.heap.push { cls := .type "list_iterator", data := .fields #[.ref l, .int 0 0] }).objs.size = s.heap.objs.size + 1 := Heap.size_push ..
  have gone : ∀ k, s.heap.objs.size ≤ k → s.heap.get? k = none := fun k hk => by
    cases e : s.heap.get? k with
    | none => rfl
    | some o => exact absurd (Heap.lt_size e) (Nat.not_lt.mpr hk)
  have W := Walks.list (prog := prog) (w := w) (A := A.in1) hh s.heap.objs.size l (Nat.ne_of_lt hlt) items
  refine wpAny_pure ⟨plainId_quiet F.plain_min_loop _, loop_min0 (h0 := s.heap) W bt cmp _ ?_ ?_ ?_ hne ?_ ?_ (Heap.get?_push_size _ rfl) fun v h' tk hP kp => ?_⟩
  · rw [sz]
    intro hm
    rcases List.mem_cons.mp hm with e | hm
    · exact absurd e (Nat.succ_ne_self _)
    · rw [List.mem_singleton] at hm
      rw [← hm] at hlt
      exact absurd hlt (Nat.not_lt.mpr (Nat.le_succ _))
  · intro b hb
    rw [List.mem_singleton] at hb
    rw [hb]
    exact gone _ (Nat.le_refl _)
  · rw [sz]
    exact gone _ (Nat.le_succ _)
  · obtain ⟨o, k1, k2⟩ := it0
    exact ⟨⟨o, Heap.get?_push_of_some _ k1, k2⟩, (hl.push _).push _⟩
  · exact fun b o e => Heap.get?_push_of_some _ (Heap.get?_push_of_some _ e)
  · refine h v h' tk hP fun b o e => kp b o ?_ ?_ (Heap.get?_push_of_some _ (Heap.get?_push_of_some _ e))
    · rw [List.mem_singleton]
      exact Nat.ne_of_lt (Heap.lt_size e)
    · rw [sz]
      exact Nat.ne_of_lt (Nat.lt_succ_of_lt (Heap.lt_size e))
end
/-- lists of whole numbers, in order -/
def ltI (a b : List Int) : Bool := SeqAt.firstLt (fun j => a.getD j 0 == b.getD j 0) (fun j => decide (a.getD j 0 < b.getD j 0)) (decide (a.length < b.length)) (List.range (min a.length b.length))
def bestL (nss : List (List Int)) : Nat := argBest (fun i j => ltI (nss.getD i []) (nss.getD j [])) (nss.length - 1)
theorem intsAre_at : ∀ {its : List Value} {ns : List Int}, IntsAre its ns → ∀ {j : Nat} (h : j < its.length), ∃ t, its[j] = .int (ns.getD j 0) t
  | _, _, .nil, j, h => absurd h (Nat.not_lt_zero _)
  | _, _, .cons i t r, 0, h => ⟨t, rfl⟩
  | _, _, .cons i t r, j + 1, h => intsAre_at r (Nat.lt_of_succ_lt_succ h)
theorem lt_lists {A : Around} {s : Shared} {a b : Addr} {xs ys : List Value} {ns ms : List Int} (ha : s.heap.IsList a xs.toArray) (hb : s.heap.IsList b ys.toArray) (h1 : IntsAre xs ns) (h2 : IntsAre ys ms) (hu : A.units < cLine) : SeqAt.RcLt A s (.ref a) (.ref b) (ltI ns ms) := by
  have l1 := h1.length
  have l2 := h2.length
  have z := SeqAt.RcLt.lists (A := A) (s := s) (e := fun j => ns.getD j 0 == ms.getD j 0) (r := fun j => decide (ns.getD j 0 < ms.getD j 0)) ha hb hu (fun j k1 k2 => ?_) (fun j k1 k2 _ => ?_)
  · simp only [List.size_toArray] at z
    rw [l1, l2] at z
    exact z
  · obtain ⟨t, e1⟩ := intsAre_at h1 (j := j) (by simpa using k1)
    obtain ⟨u, e2⟩ := intsAre_at h2 (j := j) (by simpa using k2)
    have f1 : xs.toArray[j] = xs[j]'(by simpa using k1) := by simp
    have f2 : ys.toArray[j] = ys[j]'(by simpa using k2) := by simp
    rw [f1, f2, e1, e2]
    exact SeqAt.EqAt.int_int _ _ _ _
  · obtain ⟨t, e1⟩ := intsAre_at h1 (j := j) (by simpa using k1)
    obtain ⟨u, e2⟩ := intsAre_at h2 (j := j) (by simpa using k2)
    have f1 : xs.toArray[j] = xs[j]'(by simpa using k1) := by simp
    have f2 : ys.toArray[j] = ys[j]'(by simpa using k2) := by simp
    rw [f1, f2, e1, e2]
    exact fun _ _ _ _ h => PyProof.Rows.lt_int h
/-- min(xs), lists of whole numbers -/
def rMinL (K : PySem.W.Frag) : List V → Hp → VK → Prop := fun vs H Q => ∃ (a : Addr) (xs : List V) (nss : List (List Int)), vs = [V.ref a] ∧ SqL K H a xs ∧ xs.length = nss.length ∧ (∀ i x, xs[i]? = some x → ∃ b, x = V.ref b ∧ SqL K H b ((nss.getD i []).map V.int)) ∧ 0 < nss.length ∧ ∀ x, xs[bestL nss]? = some x → Q x H
theorem cr_minL {X : Cx} (hc : X.calm = true) (hu : X.A.units + 64 < cLine) : CallR X (.builtin "min") (rMinL X.K) := by
  intro pins s σ H vs us Q I r h
  obtain ⟨a, xs, nss, rfl, hs, hn, hx, hp, q⟩ := h
  obtain ⟨its, rv, hl, _⟩ := I.list hs
  rw [Vals.ref1 r]
  have len := rv.length
  have get : ∀ i v, its[i]? = some v → ∃ b jts, v = .ref b ∧ s.heap.IsList b (List.toArray jts) ∧ IntsAre jts (nss.getD i []) := fun i v hv => by
    have hi : i < xs.length := by
      have := (List.getElem?_eq_some_iff.mp hv).1
      omega
    obtain ⟨u, h1, h2⟩ := rv.get (List.getElem?_eq_getElem hi)
    obtain ⟨b, h3, h4⟩ := hx i _ (List.getElem?_eq_getElem hi)
    rw [hv] at h1
    cases h1
    rw [h3] at h2
    cases h2
    obtain ⟨jts, rj, hj, _⟩ := I.list h4
    exact ⟨b, jts, rfl, hj.isList, rj.ints⟩
  have cmp : CmpH s.heap X.prog X.w X.A.in1 (fun i v => its.toArray[i]? = some v) (fun i j => ltI (nss.getD i []) (nss.getD j [])) := fun i j vi vj s' Q' E' kp hi hj hq => by
    obtain ⟨b1, j1, rfl, k1, n1⟩ := get i vi (by simpa using hi)
    obtain ⟨b2, j2, rfl, k2, n2⟩ := get j vj (by simpa using hj)
    have m1 : s'.heap.IsList b1 (List.toArray j1) := by obtain ⟨o, e, r⟩ := k1; exact ⟨o, kp _ _ e, r⟩
    have m2 : s'.heap.IsList b2 (List.toArray j2) := by obtain ⟨o, e, r⟩ := k2; exact ⟨o, kp _ _ e, r⟩
    exact lt_lists m1 m2 n1 n2 (by show X.A.units + 1 < cLine; omega) _ _ _ _ hq
  refine min_listH (I.ok.hd hc) hl.isList (by simp only [List.size_toArray]; omega) cmp fun v h' tk hv kp => ?_
  have e : its.toArray.size - 1 = nss.length - 1 := by simp only [List.size_toArray]; omega
  rw [e] at hv
  have hv' : its[bestL nss]? = some v := by
    rw [List.getElem?_toArray] at hv
    exact hv
  have hi : bestL nss < xs.length := by
    have := (List.getElem?_eq_some_iff.mp hv').1
    omega
  obtain ⟨u, h1, h2⟩ := rv.get (List.getElem?_eq_getElem hi)
  rw [hv'] at h1
  cases h1
  exact ⟨_, H, I.kept kp, h2, q _ (List.getElem?_eq_getElem hi)⟩
theorem dp_at {K : Fg} {H : Hp} : ∀ {ds : List D} {vs : List V}, DpAll K H vs ds → vs.length = ds.length ∧ ∀ (i : Nat) (v : V), vs[i]? = some v → ∃ d, ds[i]? = some d ∧ Dp K H v d
  | _, _, .nil => ⟨rfl, fun i v h => by simp at h⟩
  | _, _, .cons r t => by
    obtain ⟨h1, h2⟩ := dp_at t
    refine ⟨by simp [h1], fun i v h => ?_⟩
    cases i with
    | zero => cases h; exact ⟨_, rfl, r⟩
    | succ i => exact h2 i v h
def intLists : List D → Option (List (List Int))
  | [] => some []
  | .list ds :: r => (intsOf ds).bind fun ns => (intLists r).bind fun nss => some (ns :: nss)
  | _ => none
theorem intLists_eq : ∀ {ds : List D} {nss : List (List Int)}, intLists ds = some nss → ds = nss.map fun ns => .list (ns.map .int)
  | [], _, h => by cases h; rfl
  | .list ds :: r, nss, h => by
    simp only [intLists, Option.bind_eq_some_iff] at h
    obtain ⟨ns, h1, ms, h2, h3⟩ := h
    cases h3
    rw [intsOf_eq h1, intLists_eq h2]
    rfl
  | .none :: _, _, h => by cases h
  | .bool _ :: _, _, h => by cases h
  | .int _ :: _, _, h => by cases h
  | .str _ :: _, _, h => by cases h
  | .tuple _ :: _, _, h => by cases h
  | .dict _ :: _, _, h => by cases h
def oMinL : List RV → Option PV
  | [.d (.list ds)] => (intLists ds).bind fun nss => if bestL nss < nss.length then some (.d (.list ((nss.getD (bestL nss) []).map .int))) else none
  | _ => none
theorem s_minL {Z : Zn} : OpN Z (rMinL Z.K) oMinL := by
  intro Hb H vs rs pv e rr h Q q
  unfold oMinL at h
  split at h
  · obtain ⟨v, rfl, r⟩ := rdrs1 rr
    cases r with
    | lst s t =>
      simp only [Option.bind_eq_some_iff] at h
      obtain ⟨nss, h1, h2⟩ := h
      split at h2
      · rename_i hb
        cases h2
        have hd := intLists_eq h1
        subst hd
        obtain ⟨k1, k2⟩ := dp_at t
        rw [List.length_map] at k1
        refine ⟨_, _, nss, rfl, s, k1, fun i x hx => ?_, by omega, fun x hx => ?_⟩
        · obtain ⟨d, k3, k4⟩ := k2 i x hx
          rw [List.getElem?_map] at k3
          obtain ⟨ns, k5, rfl⟩ := Option.map_eq_some_iff.mp k3
          have k6 : nss.getD i [] = ns := by rw [List.getD_eq_getElem?_getD, k5]; rfl
          rw [k6]
          cases k4 with
          | lst s2 t2 =>
            have := DpAll.ints_inv t2
            subst this
            exact ⟨_, rfl, sql_ex e s2⟩
        · obtain ⟨d, k3, k4⟩ := k2 _ x hx
          rw [List.getElem?_map] at k3
          obtain ⟨ns, k5, rfl⟩ := Option.map_eq_some_iff.mp k3
          have k6 : nss.getD (bestL nss) [] = ns := by rw [List.getD_eq_getElem?_getD, k5]; rfl
          have k7 : Dp Z.K Hb x (.list ((nss.getD (bestL nss) []).map .int)) := by
            rw [k6]
            exact k4
          exact q _ _ _ (.refl e) (.d k7)
      · cases h2
  · cases h
end Ol
set_option Elab.async false
set_option linter.all false
set_option maxRecDepth 100000
set_option maxHeartbeats 4000000
/-! own: xs.insert(i, y) -/
namespace Ol
open PySem PySem.Spec PyProof.Rows L2
def rInsert : V → List V → Hp → VK → Prop := fun x vs H Q => ∃ (l : Addr) (xs : List V) (i : Int) (y : V), x = .ref l ∧ vs = [.int i, y] ∧ H l = some (.lst xs) ∧ xs.length < sizeLine ∧ 0 ≤ i ∧ i < 2 ^ 63 ∧ Q .non (upd H l (.lst (xs.take i.toNat ++ [y] ++ xs.drop i.toNat)))
def fInsert : Ob → List D → Option (PV × Ob)
  | .lst xs, [.int i, d] => if xs.length < 100000 ∧ 0 ≤ i ∧ i ≤ (xs.length : Nat) then some (.d .none, .lst (xs.take i.toNat ++ [d] ++ xs.drop i.toNat)) else none
  | _, _ => none
theorem DpAll.app {K : Fg} {H : Hp} : ∀ {ds es : List D} {vs ws : List V}, DpAll K H vs ds → DpAll K H ws es → DpAll K H (vs ++ ws) (ds ++ es)
  | _, _, _, _, .nil, h => h
  | _, _, _, _, .cons a t, h => .cons a (DpAll.app t h)
theorem DpAll.tk {K : Fg} {H : Hp} : ∀ {ds : List D} {vs : List V} (n : Nat), DpAll K H vs ds → DpAll K H (vs.take n) (ds.take n)
  | _, _, 0, _ => by rw [List.take_zero, List.take_zero]; exact .nil
  | _, _, n + 1, .nil => .nil
  | _, _, n + 1, .cons a t => .cons a (DpAll.tk n t)
theorem DpAll.dr {K : Fg} {H : Hp} : ∀ {ds : List D} {vs : List V} (n : Nat), DpAll K H vs ds → DpAll K H (vs.drop n) (ds.drop n)
  | _, _, 0, h => h
  | _, _, n + 1, .nil => .nil
  | _, _, n + 1, .cons a t => DpAll.dr n t
section
variable {Z : Zn} {Hb H : Hp} {σ : L2.St}
theorem m_insert : OpM Z rInsert fInsert := by
  intro Hb H p o vs ds pv o' e ow hb hd h Q q
  unfold fInsert at h
  split at h
  · split at h
    · rename_i hl
      cases h
      obtain ⟨v, w, rfl, r1, r2⟩ := dp2 hd
      cases r1
      cases ow with
      | lst a b =>
        have l := DpAll.length b
        have big : (100000 : Int) < 2 ^ 63 := by decide
        refine ⟨p, _, _, w, rfl, rfl, a, by rw [l]; exact Nat.lt_of_lt_of_le hl.1 (by decide), hl.2.1, ?_, q _ _ (.lst upd_same (DpAll.app (DpAll.app (DpAll.tk _ b) (.cons r2 .nil)) (DpAll.dr _ b))) vrN⟩
        generalize (2 ^ 63 : Int) = u at *
        omega
    · cases h
  · cases h
end
section
variable {X : Cx} {i : Nat} {a : Expr} {es : List Expr} {mas : MA} {apos cpos : Pos}
theorem iE_insert {ox : Str} {po : Pos} (ho : PE X (.Name ox po) (tVar i)) (ha : PA X (a :: es) (tIA (zn X) mas))
    (hb : attributeBase (.Name ox po) "insert" X.env (eval (.Name ox po) X.env) = eval (.Name ox po) X.env := by rfl) (hf : ((backTo cpos (starEach (a :: es) X.env)).all (fun x => !x.1) && (backToKw cpos (keywordEach [] X.env)).all (fun x => x.1.isSome)
      && decide ((a :: es).length + ([] : List Keyword).length + (if ([] : List Keyword).isEmpty then 0 else 1) < 30)) = true := by rfl) (hl : (apos.endLine == cpos.line) = true := by rfl) (hs : starEach (a :: es) X.env = (false, eval a X.env) :: starEach es X.env := by rfl) (hp : (backTo cpos (starEach es X.env)).any (·.1) = false := by rfl) :
    PE X (.Call (.Attribute (.Name ox po) "insert" apos) (a :: es) [] cpos) (tI (zn X) (mMeth 0 i fInsert mas)) := pe_mono (pe_bm PySem.F.plainAttrs_list PySem.F.slot_list_insert PySem.F.type_list_insert mt_insert ho ha hb hf hl hs hp) fun σ H Q => re_methL rfl m_insert
end
end Ol
set_option Elab.async false
set_option linter.all false
set_option maxRecDepth 100000
set_option maxHeartbeats 4000000
/-! own: calls of functions that are known where no repr is under way -/
namespace Ol
open PySem PySem.Spec PySem.Calls PyProof.Rows L2
section
variable {X : Cx} {f : Addr} {fd : FuncData} {ps : List Str} {sp : Sp} {k : Nat} {E : XK}
theorem run_fnG {pins : List (Addr × Obj)} {σ : L2.St} {H : Hp} {s : Shared} {Q : VK} {us : List Value} {vs : List V} (F : FnG X.prog X.w X.K X.mg X.base L2.CX0 k f fd ps sp) (hg : X.A.guards = some []) (hr : Room k X.A) (hb : Binds X.K fd ps []) (hx : Passes L2.CX0 X E)
    (I : Inv X pins σ H s) (r : Vals vs us) (h : sp vs H Q E) : wpAny (model X.prog X.w) X.A (call (.ref f) us) (EP X pins σ Q) X.xe s := by
  have len : us.length = ps.length := by rw [← r.length]; exact F.len _ _ _ _ h
  have b := hb s us I.kIn (by rw [List.append_nil]; exact len)
  rw [List.append_nil] at b
  refine wpAny_call (codeAny_mono (F.run X.A X.stack s H ⟨us, []⟩ us vs Q E hg hr I.env0 b r h) fun r s' hq => ?_)
  cases r with
  | error e => exact hx pins σ H s e s' I hq
  | ok fl => cases fl with
    | ret u => exact I.after hq
    | next => exact False.elim hq
    | brk => exact False.elim hq
    | cont => exact False.elim hq
end
structure FokG (Z : Zn) (mg : Str → Option Value) (base : Heap) (k : Nat) (x : Str) (F : Fn) : Prop where
  ex : ∃ (f : Addr) (fd : FuncData) (ps : List Str), FnG Z.P Z.w Z.K mg base L2.CX0 k f fd ps (spI Z F) ∧ mg x = some (.ref f) ∧ PySem.W.keepIn Z.K (.ref f) = true ∧ Binds Z.K fd ps []
section
variable {X : Cx} {x : Str} {pos p : Pos} {j k : Nat} {mas : MA} {a : Expr} {es : List Expr}
theorem iE_callG {F : Fn} {ios : List Bool} (c : FokG (zn X) X.mg X.base k x F) (hgd : X.A.guards = some []) (hr : Room j X.A) (hk : k ≤ j) (hg : Gl X x) (ha : PA X (a :: es) (tIA (zn X) mas)) (hdb : (x == ("__debug__" : Str)) = false := by decide)
    (he : starEach (a :: es) X.env = (false, eval a X.env) :: starEach es X.env := by rfl) (hpl : (backTo pos (starEach es X.env)).any (·.1) = false := by rfl) : PE X (.Call (.Name x p) (a :: es) [] pos) (tI (zn X) (mCall ios F mas)) := by
  obtain ⟨f, fd, ps, F', hm, kp, b⟩ := c.ex
  refine pe_mono (t := tCall (spI (zn X) F) [] L2.E0 (tIA (zn X) mas)) ⟨fun pins s σ H Q I h => ?_⟩ fun σ H Q h => re_call (E := L2.E0) h
  refine wpAny_Call_Name_kw (ld_glob I hg hm ?_ hdb)
  refine PySem.W.callWith_K (h₀ := X.base) I.ok.mod.kin kp (thn (ha.run pos pins s σ H _ I h) fun us s1 ⟨vs, H1, I1, r, q⟩ => ⟨I1.kIn, ?_⟩) he hpl
  have q2 : spI (zn X) F (vs ++ []) H1 Q L2.E0 := q
  rw [List.append_nil] at q2
  exact run_fnG F' hgd (hr.mono hk) b L2.pass0 I1 r q2
end
end Ol
set_option Elab.async false
set_option linter.all false
set_option maxRecDepth 100000
set_option maxHeartbeats 4000000
/-! own: data with empty dicts in it: {}, repr, x in t for a text x, [..] * n -/
namespace Ol
open PySem PySem.Spec PyProof.Rows L2
def mDic0 : ME := fun env => some (.d (.dict []), env)
theorem re_dic0 {Z : Zn} {σ : L2.St} {H : Hp} {Q : VK} (h : tI Z mDic0 σ H Q) : tDNewK σ H Q := by
  obtain ⟨B, Hb, env, pv, env', st, e, q⟩ := h
  cases e
  exact fun p hp => q _ _ _ ((Go.refl st).nx (Nx.new st.sub hp)) (.d (.dic upd_same))
section
variable {X : Cx} {pos : Pos}
theorem gDic0 {e : Expr} (h : PE X e (tI (zn X) mDic0)) : PE X e (tI (zn X) mDic0) := h
theorem iE_dic0 : PE X (.Dict [] [] pos) (tI (zn X) mDic0) := pe_mono pe_dnewK fun σ H Q => re_dic0
end
/-! ### the object of an empty dict -/
section
variable {X : Cx} {pins : List (Addr × Obj)} {σ : L2.St} {H : Hp} {s : Shared}
theorem dic_obj (I : Inv X pins σ H s) {a : Addr} (r : H a = some (.dK [])) : ∃ ep sl, s.heap.get? a = some { cls := .type "dict", dict := none, data := .dict #[] ep, slots := sl } ∧ (a == sysModules) = false := by
  obtain ⟨_, hsys, vs, kv, ob, es, ep, g1, g2, g3, _, g5, _⟩ := dk_of I.hok r
  cases kv
  have e : es = #[] := by
    have := g5.length
    exact Array.eq_empty_of_size_eq_zero (by simpa using this)
  subst e
  obtain ⟨oc, od, odata, os⟩ := ob
  obtain ⟨h1, h2, h3⟩ := g2
  simp only at h1 h2 h3 g3
  subst h1 h2 g3
  exact ⟨ep, os, g1, hsys⟩
/-! ### repr -/
mutual
theorem ReprD.one (I : Inv X pins σ H s) : ∀ (d : D) (v : V) (u : Value), Dp X.K H v d → RelV v u → d.showable = true → d.shown.length ≤ sizeLine → ∃ as bs, Reads s.heap u d as ∧ ReadAtMost s.heap d.depth bs ∧ ReprK X.prog X.w bs s.heap d.depth u d.shown
  | .none, _, _, h, r, _, _ => by
    cases h; cases r
    exact ⟨_, [], Reads.none, (fun _ z => nomatch z), by rw [PyData.shown]; exact .of_is ReprIs.none _ _ _⟩
  | .bool b, _, _, h, r, _, _ => by
    cases h; cases r
    exact ⟨_, [], Reads.bool b, (fun _ z => nomatch z), by rw [PyData.shown]; exact .of_is (ReprIs.bool b) _ _ _⟩
  | .int i, _, _, h, r, hs, _ => by
    cases h
    obtain ⟨t, rfl⟩ := r
    exact ⟨_, [], Reads.int i t, (fun _ z => nomatch z), by rw [PyData.shown]; exact .of_is (ReprIs.int t (by simpa [PyData.showable] using hs)) _ _ _⟩
  | .str x, _, _, h, r, _, hz => by
    cases h
    obtain ⟨t, rfl⟩ := r
    exact ⟨_, [], Reads.str x t, (fun _ z => nomatch z), by rw [PyData.shown]; exact .of_is (ReprIs.str x t (by rw [PyData.shown] at hz; exact hz)) _ _ _⟩
  | .list ds, _, _, h, r, hs, hz => by
    cases h with
    | lst hq ha =>
      cases r
      obtain ⟨its, rv, ⟨o, n, ho, hc, _, hd⟩, _⟩ := I.list hq
      have ht : (listText (PyData.shownAll ds)).length ≤ sizeLine := by rw [PyData.shown] at hz; exact hz
      obtain ⟨as, bs, r1, r2, r3⟩ := ReprD.all I ds _ its ha rv (by rw [PyData.showable] at hs; exact hs) fun t hm => Nat.le_trans (listText_mem_le hm) ht
      have rr : Reads s.heap (.ref _) (.list ds) _ := .list ho hc hd r1
      have hna := not_mem_of_deeper rr (n := PyData.depthAll ds) (by rw [PyData.depth]; omega) r2
      refine ⟨_, _ :: bs, rr, ReadAtMost.cons rr (by rw [PyData.depth]; omega) r2, ?_⟩
      rw [PyData.depth, PyData.shown]
      cases its with
      | nil =>
        cases r1
        rw [PyData.shownAll, listText_nil]
        exact ReprK.listEmpty ho hc hd
      | cons x l => exact ReprK.list ho hc hd hna (by simpa using r3.length_eq) fun i y e => r3.item i y (by simpa using e)
  | .tuple ds, _, _, h, r, hs, hz => by
    cases h with
    | tup hq ha _ =>
      cases r
      obtain ⟨its, rv, ⟨o, ho, hc, n, hd⟩, _⟩ := I.tuple hq
      have ht : (tupleText (PyData.shownAll ds)).length ≤ sizeLine := by rw [PyData.shown] at hz; exact hz
      obtain ⟨as, bs, r1, r2, r3⟩ := ReprD.all I ds _ its ha rv (by rw [PyData.showable] at hs; exact hs) fun t hm => Nat.le_trans (tupleText_mem_le hm) ht
      have rr : Reads s.heap (.ref _) (.tuple ds) _ := .tuple ho hc hd r1
      have hna := not_mem_of_deeper rr (n := PyData.depthAll ds) (by rw [PyData.depth]; omega) r2
      refine ⟨_, _ :: bs, rr, ReadAtMost.cons rr (by rw [PyData.depth]; omega) r2, ?_⟩
      rw [PyData.depth, PyData.shown]
      exact ReprK.tuple ho hc hd hna r3
  | .dict [], _, _, h, r, _, _ => by
    cases h with
    | dic q =>
      cases r
      obtain ⟨ep, sl, ho, hsys⟩ := dic_obj I q
      have rr : Reads s.heap (.ref _) (.dict []) _ := .dict (kvs := []) ho rfl rfl .nil .nil
      refine ⟨_, [_], rr, ReadAtMost.cons rr (n := 0) (Nat.zero_le _) (fun _ z => nomatch z), ?_⟩
      rw [PyData.depth, PyData.shown, PyData.shownKv, PyData.depthKv]
      exact ReprK.dict ho rfl rfl hsys (fun z => nomatch z) .nil
  | .dict (_ :: _), _, _, h, _, _, _ => by cases h
theorem ReprD.all (I : Inv X pins σ H s) : ∀ (ds : List D) (vs : List V) (us : List Value), DpAll X.K H vs ds → Vals vs us → PyData.showableAll ds = true → (∀ t ∈ PyData.shownAll ds, t.length ≤ sizeLine) →
    ∃ as bs, ReadsAll s.heap us ds as ∧ ReadAtMost s.heap (PyData.depthAll ds) bs ∧ ReprAllK X.prog X.w bs s.heap (PyData.depthAll ds) us (PyData.shownAll ds)
  | [], _, _, h, r, _, _ => by
    cases h; cases r
    exact ⟨_, [], ReadsAll.nil, (fun _ z => nomatch z), by rw [PyData.shownAll]; exact .nil⟩
  | d :: ds, _, _, h, r, hs, hz => by
    cases h with
    | cons h1 h2 =>
      cases r with
      | cons q1 q2 =>
        have w : d.showable = true ∧ PyData.showableAll ds = true := by simpa [PyData.showableAll] using hs
        rw [PyData.shownAll] at hz ⊢
        obtain ⟨a1, b1, x1, x2, x3⟩ := ReprD.one I d _ _ h1 q1 w.1 (hz _ (List.mem_cons_self ..))
        obtain ⟨a2, b2, y1, y2, y3⟩ := ReprD.all I ds _ _ h2 q2 w.2 fun t ht => hz t (List.mem_cons_of_mem _ ht)
        rw [PyData.depthAll]
        refine ⟨_, b1 ++ b2, ReadsAll.cons x1 y1, (x2.mono (Nat.le_max_left _ _)).append (y2.mono (Nat.le_max_right _ _)), ?_⟩
        exact .cons ((x3.more fun b hb => List.mem_append_left _ hb).level_le (Nat.le_max_left _ _)) (y3.more_le (fun b hb => List.mem_append_right _ hb) (Nat.le_max_right _ _))
end
end
def okShowJ (d : D) : Bool := d.showable && decide (d.depth ≤ 40) && decide (d.shown.length ≤ 100000)
def rReprJ (K : PySem.W.Frag) : List V → Hp → VK → Prop := fun xs H Q => ∃ v d, xs = [v] ∧ Dp K H v d ∧ okShowJ d = true ∧ Q (.str d.shown) H
theorem cr_reprJ {X : Cx} (hg : X.A.guards = some []) (hu : X.A.units + 64 < cLine) : CallR X (.builtin "repr") (rReprJ X.K) := by
  intro pins s σ H xs us Q I r h
  obtain ⟨v, d, rfl, hd, ok, q⟩ := h
  obtain ⟨u, rfl, rx⟩ := vals1 r
  unfold okShowJ at ok
  simp only [Bool.and_eq_true, decide_eq_true_eq] at ok
  obtain ⟨⟨o2, o4⟩, o5⟩ := ok
  have hz : d.shown.length ≤ sizeLine := Nat.le_trans o5 (by decide)
  have fin : ∀ h' t tk, (∀ b o, s.heap.get? b = some o → h'.get? b = some o) → EP X pins σ Q (.str d.shown t) { s with heap := h', toks := tk } := fun h' t tk kp => ⟨.str d.shown, H, I.kept (t' := tk) kp, ⟨t, rfl⟩, q⟩
  have fin0 : ∀ t tk, EP X pins σ Q (.str d.shown t) { s with toks := tk } := fun t tk => fin s.heap t tk fun _ _ e => e
  cases d with
  | none => cases hd; cases rx; rw [PyData.shown] at fin0; exact PySem.P.repr_of_none (fin0 _ _)
  | bool b => cases hd; cases rx; rw [PyData.shown] at fin0; exact PySem.P.repr_of_bool (fin0 _ _)
  | int i => cases hd; obtain ⟨t, rfl⟩ := rx; rw [PyData.shown] at fin0; exact PySem.P.repr_of_int (by simpa [PyData.showable] using o2) (fin0 _ _)
  | str x => cases hd; obtain ⟨t, rfl⟩ := rx; rw [PyData.shown] at fin0 hz; exact PySem.P.repr_of_str (fin0 _ _) hz
  | list ds =>
    cases hd with
    | lst hq ha =>
      cases rx
      obtain ⟨its, rv, ⟨o, n, ho, hc, _, hd⟩, _⟩ := I.list hq
      have ht : (listText (PyData.shownAll ds)).length ≤ sizeLine := by rw [PyData.shown] at hz; exact hz
      obtain ⟨as, bs, r1, r2, r3⟩ := ReprD.all I ds _ its ha rv (by rw [PyData.showable] at o2; exact o2) fun t hm => Nat.le_trans (listText_mem_le hm) ht
      have rr : Reads s.heap (.ref _) (.list ds) _ := .list ho hc hd r1
      have hna := not_mem_of_deeper rr (n := PyData.depthAll ds) (by rw [PyData.depth]; omega) r2
      rw [PyData.depth] at o4
      rw [PyData.shown] at fin
      refine call_repr_slot (by omega) ⟨o, ho, hc⟩ PySem.F.slot_list_repr.toG ?_
      cases its with
      | nil =>
        cases r1
        rw [PyData.shownAll, listText_nil] at fin
        exact call_list_repr_empty ⟨o, ho, hc⟩ ho hd ⟨_, _, rfl, fin _ _ _ fun _ _ e => e⟩
      | cons x l =>
        exact call_list_reprK ho hc hd hna (by simpa using r3.length_eq) (fun i y e => r3.item i y (by simpa using e)) hg (fun b _ => Clear.nil b) (by show X.A.units + 1 + (PyData.depthAll ds + 1) < cLine; omega) (fun _ _ e => e) (fun h' u tk kp => ⟨_, _, rfl, fin h' u tk kp⟩) ht
  | tuple ds =>
    cases hd with
    | tup hq ha _ =>
      cases rx
      obtain ⟨its, rv, ⟨o, ho, hc, n, hd⟩, _⟩ := I.tuple hq
      have ht : (tupleText (PyData.shownAll ds)).length ≤ sizeLine := by rw [PyData.shown] at hz; exact hz
      obtain ⟨as, bs, r1, r2, r3⟩ := ReprD.all I ds _ its ha rv (by rw [PyData.showable] at o2; exact o2) fun t hm => Nat.le_trans (tupleText_mem_le hm) ht
      have rr : Reads s.heap (.ref _) (.tuple ds) _ := .tuple ho hc hd r1
      have hna := not_mem_of_deeper rr (n := PyData.depthAll ds) (by rw [PyData.depth]; omega) r2
      rw [PyData.depth] at o4
      rw [PyData.shown] at fin
      refine call_repr_slot (by omega) ⟨o, ho, hc⟩ PySem.F.slot_tuple_repr ?_
      exact call_tuple_reprK ho hc hd hna r3 hg (fun b _ => Clear.nil b) (by show X.A.units + 1 + (PyData.depthAll ds + 1) < cLine; omega) (fun _ _ e => e) (fun h' u tk kp => ⟨_, _, rfl, fin h' u tk kp⟩) ht
  | dict kvs =>
    cases hd with
    | dic hq =>
      cases rx
      obtain ⟨ep, sl, ho, hsys⟩ := dic_obj I hq
      have o4' : X.A.units + 1 + (0 + 1) < cLine := by omega
      rw [PyData.shown, PyData.shownKv] at fin
      refine call_repr_slot (by omega) ⟨_, ho, rfl⟩ PySem.F.slot_dict_repr ?_
      exact call_dict_reprK (as := []) (d := 0) ho rfl rfl hsys (fun z => nomatch z) .nil hg (fun b _ => Clear.nil b) o4' (fun _ _ e => e) (fun h' u tk kp => ⟨_, _, rfl, fin h' u tk kp⟩) (by rw [PyData.shown, PyData.shownKv] at hz; exact hz)
def oReprJ : List RV → Option PV
  | [.d x] => if okShowJ x = true then some (.d (.str x.shown)) else none
  | _ => none
theorem s_reprJ {Z : Zn} : OpN Z (rReprJ Z.K) oReprJ := by
  intro Hb H vs rs pv e rr h Q q
  unfold oReprJ at h
  split at h
  · split at h
    · rename_i x ok
      cases h
      obtain ⟨v, rfl, r⟩ := rdrs1 rr
      exact ⟨v, x, rfl, r.dp e, ok, q _ _ _ (.refl e) (.d (.str _))⟩
    · cases h
  · cases h
/-! ### a text in a tuple of any data -/
section
variable {A : Around} {s : Shared}
theorem dict_eq_text {l : Addr} {es : Array DictEntry} {ep : Nat} {sl : Array (Option Value)} (b : Str) (u : Tok) {prog : Program} {w : World} {E Q : Value → Shared → Prop} (ho : s.heap.get? l = some { cls := .type "dict", dict := none, data := .dict es ep, slots := sl }) (h : Q .notImplemented s) :
    wpAny (model prog w) A (call (.builtin "dict.__eq__") [.ref l, .str b u]) Q E s := by
  have ty : s.TypeIs (.ref l) "dict" := ⟨_, ho, rfl⟩
  refine wpAny_call_entry PySem.F.slot_dict_eq ty PySem.F.entry_dict_eq ?_ (PySem.F.args_dict_eq_2 _ _)
  show wpAny _ _ (Builtin.Dict.dictSlotArgs "__eq__" ⟨[.ref l, .str b u], []⟩ >>= _) _ _ s
  unfold Builtin.Dict.dictSlotArgs
  refine wpAny_bind (wpAny_bind (wpAny_notOrdered_dict ty ?_))
  refine wpAny_pure ?_
  refine wpAny_bind (wpAny_isInstance (T := "str") (typeIs_str s b u) PySem.F.sub_str_dict ?_)
  simp only [Bool.not_false, if_true]
  refine wpAny_bind (wpAny_rule ?_)
  exact wpAny_pure ⟨_, rfl, h⟩
theorem text_eq_dict (b : Str) (u : Tok) (l : Addr) (es : Array DictEntry) (n : Nat) (dd : Option Addr) (sl : Array (Option Value)) :
    Meets (Builtin.«str.__eq__» ⟨[.str b u, .ref l], []⟩) (fun _ R s => s.heap.get? l = some { cls := .type "dict", dict := dd, data := .dict es n, slots := sl } ∧ R (.ok (.ret .notImplemented)) s) :=
  .of_wp fun prog w A R s h => by obtain ⟨hp, g, d, tk, os⟩ := s; obtain ⟨hl, h⟩ := h; wp_walk using AutoSeq1.wpAny_loadPart' hl, wpAny_load hl; exact ⟨_, rfl, h⟩
theorem eqAt_dict_text {l : Addr} {es : Array DictEntry} {ep : Nat} {sl : Array (Option Value)} (b : Str) (u : Tok) (ho : s.heap.get? l = some { cls := .type "dict", dict := none, data := .dict es ep, slots := sl }) (hu : A.units < cLine) : SeqAt.EqAt A s (.ref l) (.str b u) false := fun prog w E Q h => by
  unfold eqBool
  refine wpAny_holding (wpAny_ite_split (fun z => absurd (eq_of_beq z) nofun) fun _ => ?_)
  refine wpAny_bind (SeqAt.rc_eq_decline_or (k := false) ⟨_, ho, rfl⟩ (typeIs_str s b u) (by decide) PySem.F.sub_str_dict PySem.F.slot_dict_eq PySem.F.slot_str_eq_refl (fun _ hq => dict_eq_text b u ho hq)
    (fun _ hq => call_meets PySem.F.slot_str_eq_refl (typeIs_str s b u) PySem.F.entry_str_eq (PySem.F.args_str_eq_2 _ _) (text_eq_dict b u l es ep none sl) ⟨ho, hq⟩)
    (fun _ hq => wpAny_of_eq (rfl : isSame (.ref l) (.str b u) = pure false) hq) (.inr hu) (wpAny_truthy_bool h))
end
def isTx (a : Str) : D → Bool
  | .str b => b == a
  | _ => false
def isTxV (a : Str) : Value → Bool
  | .str b _ => b == a
  | _ => false
theorem isTx_v {K : Fg} {H : Hp} {a : Str} {d : D} {v : V} {u : Value} (h : Dp K H v d) (r : RelV v u) : isTxV a u = isTx a d := by
  cases h <;> first | (obtain ⟨t, rfl⟩ := r; rfl) | (cases r; rfl)
theorem isTx_any {K : Fg} {H : Hp} {a : Str} : ∀ {ds : List D} {vs : List V} {us : List Value}, DpAll K H vs ds → Vals vs us → us.any (isTxV a) = ds.any (isTx a)
  | [], _, _, h, r => by cases h; cases r; rfl
  | d :: ds, _, _, h, r => by
    cases h with
    | cons h1 h2 => cases r with
      | cons r1 r2 => rw [List.any_cons, List.any_cons, isTx_v h1 r1, isTx_any h2 r2]
theorem dpAll_at {K : Fg} {H : Hp} : ∀ {ds : List D} {vs : List V} {us : List Value}, DpAll K H vs ds → Vals vs us → ∀ u ∈ us, ∃ v d, RelV v u ∧ Dp K H v d
  | [], _, _, h, r, u, hu => by cases h; cases r; cases hu
  | d :: ds, _, _, h, r, u, hu => by
    cases h with
    | cons h1 h2 => cases r with
      | cons r1 r2 =>
        rcases List.mem_cons.mp hu with rfl | hu
        · exact ⟨_, _, r1, h1⟩
        · exact dpAll_at h2 r2 u hu
section
variable {X : Cx} {pins : List (Addr × Obj)} {σ : L2.St} {H : Hp} {s : Shared}
theorem eqAt_text (I : Inv X pins σ H s) {A : Around} {d : D} {v : V} {u : Value} (h : Dp X.K H v d) (r : RelV v u) (a : Str) (t : Tok) (hu : A.units < cLine) : SeqAt.EqAt A s u (.str a t) (isTxV a u) := by
  cases h with
  | non => cases r; exact SeqAt.EqAt.none_str a t
  | bl b => cases r; exact SeqAt.EqAt.bool_str b a t
  | int i => obtain ⟨t', rfl⟩ := r; exact SeqAt.EqAt.int_str i t' a t
  | str x => obtain ⟨t', rfl⟩ := r; exact SeqAt.EqAt.str_str x t' a t
  | lst hq _ =>
    cases r
    obtain ⟨its, rv, hl, _⟩ := I.list hq
    exact SeqAt.EqAt.list_str a t hl.isList hu
  | tup hq _ _ =>
    cases r
    obtain ⟨its, rv, hl, _⟩ := I.tuple hq
    exact SeqAt.EqAt.tuple_str a t hl hu
  | dic q =>
    cases r
    obtain ⟨ep, sl, ho, _⟩ := dic_obj I q
    exact eqAt_dict_text a t ho hu
end
def rTxIn (K : Fg) (neg : Bool) : R2 := fun x y H Q => ∃ a p ds, x = .str a ∧ y = .ref p ∧ Dp K H (.ref p) (.tuple ds) ∧ Q (.bl (neg ^^ ds.any (isTx a))) H
theorem op_txIn {X : Cx} (hu : X.A.units + 64 < cLine) : OpR X (compareOp .In) (rTxIn X.K false) := by
  intro pins s σ H x y v u Q I rx ry h
  obtain ⟨a, p, ds, rfl, rfl, hd, q⟩ := h
  obtain ⟨t, rfl⟩ := rx
  cases ry
  cases hd with
  | tup hq ha _ =>
    obtain ⟨its, rv, hl, _⟩ := I.tuple hq
    refine SeqAt.in_tupleAt (isTxV a) hl (fun w hw => ?_) ⟨.bl _, H, I, rfl, ?_⟩
    · obtain ⟨v, d, r1, r2⟩ := dpAll_at ha rv w (by simpa using hw)
      exact eqAt_text I r2 r1 a t (by show X.A.units + 1 < cLine; omega)
    · rw [Bool.false_xor] at q
      rw [show its.toArray.any (isTxV a) = its.any (isTxV a) by simp, isTx_any ha rv]
      exact q
def oTxIn (neg : Bool) : RV → RV → Option PV
  | .d (.str a), .d (.tuple ds) => some (bD (neg ^^ ds.any (isTx a)))
  | _, _ => none
theorem s_txIn {Z : Zn} (neg : Bool) : Op2 Z (rTxIn Z.K neg) (oTxIn neg) := by
  intro Hb H x y dx dy pv e rx ry h Q q
  unfold oTxIn at h
  split at h
  · cases h
    cases rx with
    | str a' =>
      have hy := ry.dp e
      cases ry with
      | tup s t n => exact ⟨_, _, _, rfl, rfl, hy, q _ _ _ (.refl e) (vrB _)⟩
  · cases h
/-! ### [..] * n -/
theorem dpAll_rep {K : Fg} {H : Hp} {vs : List V} {ds : List D} (h : DpAll K H vs ds) : ∀ n : Nat, DpAll K H (List.replicate n vs).flatten (List.replicate n ds).flatten
  | 0 => by simp; exact .nil
  | n + 1 => by rw [List.replicate_succ, List.replicate_succ, List.flatten_cons, List.flatten_cons]; exact DpAll.append h (dpAll_rep h n)
def repO : PV → PV → Option PV
  | .new (.lst ds), .d (.int k) => if 0 ≤ k ∧ k ≤ 100000 ∧ ds.length * k.toNat ≤ 100000 then some (.new (.lst (List.replicate k.toNat ds).flatten)) else none
  | _, _ => none
def mRepL (ma : MA) (b : ME) : ME := fun env => (mLst ma env).bind fun x => (b x.2).bind fun y => (repO x.1 y.1).bind fun p => some (p, y.2)
theorem repO_some {a b p : PV} (h : repO a b = some p) : ∃ ds k, a = .new (.lst ds) ∧ b = .d (.int k) ∧ 0 ≤ k ∧ k ≤ 100000 ∧ ds.length * k.toNat ≤ 100000 ∧ p = .new (.lst (List.replicate k.toNat ds).flatten) := by
  unfold repO at h
  split at h
  · split at h
    · rename_i c
      cases h
      exact ⟨_, _, rfl, rfl, c.1, c.2.1, c.2.2, rfl⟩
    · cases h
  · cases h
theorem re_repL {Z : Zn} {b : ME} {σ : L2.St} {H : Hp} {Q : VK} {ma : MA} (h : tI Z (mRepL ma b) σ H Q) : tOp rRep (tLst (tIA Z ma)) (tI Z b) σ H Q := by
  obtain ⟨B, Hb, env, pv, env', st, e, q⟩ := h
  simp only [mRepL, Option.bind_eq_some_iff] at e
  obtain ⟨⟨x, e1⟩, ha, ⟨y, e2⟩, hb, p, h1, h2⟩ := e
  cases h2
  refine re_lst ⟨B, Hb, env, x, e1, st, ha, fun v1 Hb1 H1 g1 rv1 => ⟨B, Hb1, e1, y, _, g1.st, hb, fun v2 Hb2 H2 g2 rv2 => ?_⟩⟩
  have rv := rv1.keep (fun p hp => own_some st p (g1.ow p hp)) g2.ny
  obtain ⟨ds, k, ex, ey, c1, c2, c3, ep⟩ := repO_some h1
  simp only at ex ey ep
  subst ex ey ep
  cases rv with
  | new a1 a2 a3 =>
    cases a3 with
    | lst w1 w2 =>
      rename_i xs
      cases rv2 with
      | d w =>
        cases w with
        | int i =>
          have hl : xs.length = _ := DpAll.length w2
          refine ⟨_, k, xs, rfl, rfl, w1, Int.le_trans (by decide) c1, Int.lt_of_le_of_lt c2 (by decide), Nat.le_trans (by rw [hl]; exact c3) (by decide), fun p hp => q _ _ _ ((g1.trans g2).nx (Nx.newOwn g2.st.sub hp)) (.new ((g1.trans g2).ny.back p hp) (g2.st.sub.free hp) (.lst upd_same (dpAll_rep w2 k.toNat)))⟩
section
variable {X : Cx} {es : List Expr} {b : Expr} {mas : MA} {mb : ME} {pos p : Pos}
theorem gRepL {e : Expr} {ma : MA} {b : ME} (h : PE X e (tI (zn X) (mRepL ma b))) : PE X e (tI (zn X) (mRepL ma b)) := h
theorem iE_repL (ha : PA X es (tIA (zn X) mas)) (hb : PE X b (tI (zn X) mb)) : PE X (.BinOp (.List es p) .Mult b pos) (tI (zn X) (mRepL mas mb)) := pe_mono (pe_op op_rep (pe_lst ha) hb) fun σ H Q => re_repL
end
end Ol
set_option Elab.async false
set_option linter.all false
set_option maxRecDepth 100000
set_option maxHeartbeats 4000000
/-! own: list(zip(xs, ys)) -/
namespace Ol
open PySem PySem.Spec PySem.Calls PyProof.Rows L2
open PySem.W (KdxG)
theorem zl_len : typeLookup (.type "zip") "__len__" = pure none := am_miss_of_fast (by decide +kernel)
theorem zl_hint : typeLookup (.type "zip") "__length_hint__" = pure none := am_miss_of_fast (by decide +kernel)
/-- a zip behind i turns, its tuples kept -/
structure Zst (h : Heap) (z TI TO i1 i2 l1 l2 S : Addr) (xs ys : Array Value) (i : Nat) : Prop where
  out : (i = 0 ∧ IsZip h z TI TO .none ∧ ∃ a b, IsPair h TO a b) ∨ ∃ T f oT, IsZipHeld h z TI TO T f ∧ h.get? T = some oT ∧ T ≠ z ∧ T ≠ TO ∧ T ≠ i1 ∧ T ≠ i2 ∧ T ≠ S
  ti : IsPair h TI (.ref i1) (.ref i2)
  a1 : h.IsListIter i1 l1 i
  a2 : h.IsListIter i2 l2 i
  b1 : h.IsList l1 xs
  b2 : h.IsList l2 ys
structure Zap (z TI TO i1 i2 l1 l2 S : Addr) : Prop where
  D : ZipApart z TI TO i1 i2 l1 l2
  z : z < S
  i1 : i1 < S
  i2 : i2 < S
  TI : TI < S
  TO : TO < S
  l1 : l1 < S
  l2 : l2 < S
theorem Zst.keep {h h' : Heap} {z TI TO i1 i2 l1 l2 S : Addr} {xs ys : Array Value} {i : Nat} (x : Zst h z TI TO i1 i2 l1 l2 S xs ys i) (hk : ∀ b o, b ≠ S → h.get? b = some o → h'.get? b = some o) (p : Zap z TI TO i1 i2 l1 l2 S) : Zst h' z TI TO i1 i2 l1 l2 S xs ys i where
  out := by
    rcases x.out with ⟨e, u, a, b, v⟩ | ⟨T, f, oT, u, v, r⟩
    · exact .inl ⟨e, hk _ _ (Nat.ne_of_lt p.z) u, a, b, hk _ _ (Nat.ne_of_lt p.TO) v⟩
    · exact .inr ⟨T, f, oT, hk _ _ (Nat.ne_of_lt p.z) u, hk _ _ r.2.2.2.2 v, r⟩
  ti := hk _ _ (Nat.ne_of_lt p.TI) x.ti
  a1 := x.a1.at fun o e => hk _ o (Nat.ne_of_lt p.i1) e
  a2 := x.a2.at fun o e => hk _ o (Nat.ne_of_lt p.i2) e
  b1 := by obtain ⟨o, e, r⟩ := x.b1; exact ⟨o, hk _ _ (Nat.ne_of_lt p.l1) e, r⟩
  b2 := by obtain ⟨o, e, r⟩ := x.b2; exact ⟨o, hk _ _ (Nat.ne_of_lt p.l2) e, r⟩
section
variable {prog : Program} {w : World} {A : Around} {E : Value → Shared → Prop} {s : Shared} {z TI TO i1 i2 l1 l2 S : Addr} {xs ys : Array Value} {i : Nat}
abbrev offZ (z TO i1 i2 : Addr) (h h' : Heap) : Prop := ∀ c o, c ≠ z → c ≠ TO → c ≠ i1 → c ≠ i2 → h.get? c = some o → h'.get? c = some o
theorem zl_item {x y : Value} {Q : Option Value → Shared → Prop} (p : Zap z TI TO i1 i2 l1 l2 S) (st : Zst s.heap z TI TO i1 i2 l1 l2 S xs ys i) (hS : S < s.heap.objs.size) (hx : xs[i]? = some x) (hy : ys[i]? = some y)
    (hQ : ∀ h', Zst h' z TI TO i1 i2 l1 l2 S xs ys (i + 1) → IsPair h' s.heap.objs.size x y → h'.objs.size = s.heap.objs.size + 1 → offZ z TO i1 i2 s.heap h' → Q (some (.ref s.heap.objs.size)) { s with heap := h' }) :
    wpAny (model prog w) A (pyNext (.ref z)) Q E s := by
  have fin : ∀ h', IsPair h' s.heap.objs.size x y → offZ z TO i1 i2 s.heap h' → h'.IsListIter i1 l1 (i + 1) → h'.IsListIter i2 l2 (i + 1) → (∃ f T oT, IsZipHeld h' z TI TO T f ∧ h'.get? T = some oT ∧ T ≠ z ∧ T ≠ TO ∧ T ≠ i1 ∧ T ≠ i2 ∧ T ≠ S) → Zst h' z TI TO i1 i2 l1 l2 S xs ys (i + 1) := fun h' q1 q2 q3 q4 ⟨f, T, oT, r⟩ => {
    out := .inr ⟨T, f, oT, r⟩
    ti := q2 _ _ p.D.TIz p.D.TITO p.D.TIi1 p.D.TIi2 st.ti
    a1 := q3
    a2 := q4
    b1 := by obtain ⟨o, e, u⟩ := st.b1; exact ⟨o, q2 _ _ p.D.l1z p.D.l1TO p.D.l1i1 p.D.l1i2 e, u⟩
    b2 := by obtain ⟨o, e, u⟩ := st.b2; exact ⟨o, q2 _ _ p.D.l2z p.D.l2TO p.D.l2i1 p.D.l2i2 e, u⟩ }
  have gtS : ∀ b, b < S → s.heap.objs.size ≠ b := fun b hb => Nat.ne_of_gt (Nat.lt_trans hb hS)
  rcases st.out with ⟨e, u, a, b, v⟩ | ⟨T, f, oT, u, v, r1, r2, r3, r4, r5⟩
  · refine wpAny_pyNext_zip_item p.D u st.ti v st.a1 st.a2 st.b1 st.b2 hx hy fun h' c1 c2 c3 c4 c5 c6 c7 => hQ h' (fin h' c5 c7 c3 c4 ⟨false, _, _, c1, c5, gtS _ p.z, gtS _ p.TO, gtS _ p.i1, gtS _ p.i2, Nat.ne_of_gt hS⟩) c5 c6 c7
  · refine wpAny_pyNext_zip_item_held p.D u v st.ti st.a1 st.a2 st.b1 st.b2 hx hy fun h' c1 c3 c4 c5 c6 c7 => ?_
    have c8 : offZ z TO i1 i2 s.heap h' := fun c o d1 _ d3 d4 e => c7 c o d1 d3 d4 e
    exact hQ h' (fin h' c5 c8 c3 c4 ⟨true, T, oT, c1, c7 T oT r1 r3 r4 v, r1, r2, r3, r4, r5⟩) c5 c6 c8
theorem zl_done {Q : Option Value → Shared → Prop} (hh : A.handled = none) (p : Zap z TI TO i1 i2 l1 l2 S) (st : Zst s.heap z TI TO i1 i2 l1 l2 S xs ys i) (hx : xs[i]? = none)
    (hQ : ∀ h', offZ z TO i1 i2 s.heap h' → Q none { s with heap := h' }) : wpAny (model prog w) A (pyNext (.ref z)) Q E s := by
  rcases st.out with ⟨e, u, a, b, v⟩ | ⟨T, f, oT, u, v, r⟩
  · exact wpAny_pyNext_zip_end hh p.D u st.ti v st.a1 st.a2 st.b1 st.b2 (.inl hx) hQ
  · exact wpAny_pyNext_zip_end_held hh p.D u v st.ti st.a1 st.a2 st.b1 st.b2 (.inl hx) fun h' q => hQ h' fun c o d1 _ d3 d4 e => q c o d1 d3 d4 e
end
section
variable {prog : Program} {w : World} {K : Type} [DecidableEq K] {knd : KeyKind prog w K} {A : Around} {s : Shared} {R : Result → Shared → Prop} {kvs : List (K × Value)} {z TI TO i1 i2 l1 l2 S : Addr} {xs ys : Array Value}
/-- the pairs of two lists -/
def Prs (knd : KeyKind prog w K) (kvs : List (K × Value)) (xs ys : Array Value) : Prop := xs.size = kvs.length ∧ ∀ (j : Nat) (k : K) (v : Value), kvs[j]? = some (k, v) → ∃ key, xs[j]? = some key ∧ ys[j]? = some v ∧ knd.is k key = true
theorem zl_loop (hh : A.handled = none) (p : Zap z TI TO i1 i2 l1 l2 S) (pr : Prs knd kvs xs ys) (hn : kvs.length ≤ sizeLine) (res : Value) {h₁ : Heap}
    (hR : ∀ h' tk acc c as, (∀ b o, b ≠ S → b ≠ z → b ≠ TO → b ≠ i1 → b ≠ i2 → h₁.get? b = some o → h'.get? b = some o) → h'.get? S = some { cls := .type "list", dict := none, data := .seq acc c, slots := #[] } → as.length = kvs.length → KdxG knd kvs S h' as →
      acc.toList = as.map Value.ref → R (.ok (.ret res)) { s with heap := h', toks := tk }) :
    ∀ (k i : Nat) (h : Heap) (tk c : Nat) (acc : Array Value) (as : List Addr), kvs.length - i = k → i ≤ kvs.length → Zst h z TI TO i1 i2 l1 l2 S xs ys i → (∀ b o, b ≠ S → b ≠ z → b ≠ TO → b ≠ i1 → b ≠ i2 → h₁.get? b = some o → h.get? b = some o) →
      h.get? S = some { cls := .type "list", dict := none, data := .seq acc c, slots := #[] } → acc.toList = as.map Value.ref → as.length = i → KdxG knd kvs S h as →
      codeAny (model prog w) A (.builtin "list.extend.loop" ⟨[.ref S, .ref z, res], []⟩) R { s with heap := h, toks := tk } := by
  have nS : S ≠ z ∧ S ≠ TO ∧ S ≠ i1 ∧ S ≠ i2 := ⟨Nat.ne_of_gt p.z, Nat.ne_of_gt p.TO, Nat.ne_of_gt p.i1, Nat.ne_of_gt p.i2⟩
  intro k
  induction k with
  | zero =>
    intro i h tk c acc as hk hi st keep hS hacc hal hG
    refine codeAny_builtin PySem.F.entry_extend_loop ?_
    rw [Around.under_plainId PySem.F.plain_extend_loop _]
    show wpAny _ A.in1 (pyNext (.ref z) >>= _) _ _ _
    refine wpAny_bind (zl_done (s := { s with heap := h, toks := tk }) (A := A.in1) hh p st (Array.getElem?_eq_none (by rw [pr.1]; omega)) fun h' he => ?_)
    have up : ∀ b o, S ≤ b → h.get? b = some o → h'.get? b = some o := fun b o hb e => he b o (Nat.ne_of_gt (Nat.lt_of_lt_of_le p.z hb)) (Nat.ne_of_gt (Nat.lt_of_lt_of_le p.TO hb)) (Nat.ne_of_gt (Nat.lt_of_lt_of_le p.i1 hb)) (Nat.ne_of_gt (Nat.lt_of_lt_of_le p.i2 hb)) e
    refine wpAny_pure (hR h' tk acc c as (fun b o d0 d1 d2 d3 d4 e => he b o d1 d2 d3 d4 (keep b o d0 d1 d2 d3 d4 e)) (up S _ (Nat.le_refl _) hS) (by omega) ⟨hG.rise, hG.above, fun j a hj => ?_⟩ hacc)
    obtain ⟨key, kk, x, e1, e2, e3⟩ := hG.pairs j a hj
    exact ⟨key, kk, x, e1, e2, up a _ (Nat.le_of_lt (hG.above a (List.mem_of_getElem? hj))) e3⟩
  | succ k ih =>
    intro i h tk c acc as hk hi st keep hS hacc hal hG
    have hlt : i < kvs.length := by omega
    obtain ⟨⟨kk, x⟩, hx⟩ : ∃ q, kvs[i]? = some q := ⟨kvs[i], List.getElem?_eq_getElem hlt⟩
    obtain ⟨key, k1, k2, k3⟩ := pr.2 i kk x hx
    have hsz : acc.size = i := by rw [← Array.length_toList, hacc, List.length_map, hal]
    have hSl : S < h.objs.size := Heap.lt_size hS
    refine codeAny_builtin PySem.F.entry_extend_loop ?_
    rw [Around.under_plainId PySem.F.plain_extend_loop _]
    show wpAny _ A.in1 (pyNext (.ref z) >>= _) _ _ _
    refine wpAny_bind (zl_item (s := { s with heap := h, toks := tk }) p st hSl k1 k2 fun h' st' ht hz hkp => ?_)
    dsimp only at ht hz hkp ⊢
    have lift : ∀ b o, S ≤ b → h.get? b = some o → h'.get? b = some o := fun b o hb e => hkp b o (Nat.ne_of_gt (Nat.lt_of_lt_of_le p.z hb)) (Nat.ne_of_gt (Nat.lt_of_lt_of_le p.TO hb)) (Nat.ne_of_gt (Nat.lt_of_lt_of_le p.i1 hb)) (Nat.ne_of_gt (Nat.lt_of_lt_of_le p.i2 hb)) e
    have hS' := lift S _ (Nat.le_refl _) hS
    have up : ∀ b o, b ≠ S → h'.get? b = some o → (h'.update S (Obj.mapSeq (·.push (Value.ref h.objs.size)))).get? b = some o := fun b o hb e => (Heap.get?_update_other _ _ (Ne.symm hb)).trans e
    show wpAny _ A.in1 (updateSeq S (·.push (Value.ref h.objs.size)) >>= _) _ _ _
    refine wpAny_bind ?_
    refine wpAny_updateSeq hS' rfl (wpAny_pure ⟨plainId_quiet PySem.F.plain_extend_loop _, ih (i + 1) _ tk _ (acc.push (Value.ref h.objs.size)) (as ++ [h.objs.size]) (by omega) hlt (st'.keep up p)
      (fun b o d0 d1 d2 d3 d4 e => up b o d0 (hkp b o d1 d2 d3 d4 (keep b o d0 d1 d2 d3 d4 e))) (Heap.get?_update_self _ hS' rfl) (by rw [Array.toList_push, hacc, List.map_append]; rfl) (by rw [List.length_append, hal]; rfl) ⟨?_, ?_, ?_⟩⟩) (by rw [hsz]; omega) (by show (acc.push (Value.ref h.objs.size)).size ≤ sizeLine + 1; rw [Array.size_push, hsz]; omega)
    · refine List.pairwise_append.mpr ⟨hG.rise, List.pairwise_singleton _ _, fun a ha b hb => ?_⟩
      rw [List.mem_singleton.mp hb]
      exact hG.there ha
    · intro a ha
      rcases List.mem_append.mp ha with ha | ha
      · exact hG.above a ha
      · rw [List.mem_singleton.mp ha]; exact hSl
    · intro j b hj
      rcases Nat.lt_trichotomy j as.length with h1 | h1 | h1
      · rw [List.getElem?_append_left h1] at hj
        obtain ⟨key', k', x', e1, e2, e3⟩ := hG.pairs j b hj
        have hb := hG.above b (List.mem_of_getElem? hj)
        exact ⟨key', k', x', e1, e2, up b _ (Nat.ne_of_gt hb) (lift b _ (Nat.le_of_lt hb) e3)⟩
      · subst h1
        have hb : h.objs.size = b := by simpa using hj
        subst hb
        exact ⟨key, kk, x, by rw [hal]; exact hx, k3, up _ _ (Nat.ne_of_gt hSl) ht⟩
      · have hnone : (as ++ [h.objs.size])[j]? = none := List.getElem?_eq_none (by rw [List.length_append, List.length_singleton]; omega)
        rw [hnone] at hj; cases hj

theorem zl_room {E : Value → Shared → Prop} (hT : s.TypeIs (.ref z) "zip") {Q : Bool → Shared → Prop} (h : Q true s) : wpAny (model prog w) A (Builtin.List.listLengthHint (.ref z)) Q E s := by
  unfold Builtin.List.listLengthHint
  refine wpAny_bind (wpAny_specialOf hT zl_len ?_)
  refine wpAny_bind (wpAny_specialOf hT zl_hint ?_)
  exact wpAny_pure h
theorem zl_extend (hh : A.handled = none) (p : Zap z TI TO i1 i2 l1 l2 S) (pr : Prs knd kvs xs ys) (st : Zst s.heap z TI TO i1 i2 l1 l2 S xs ys 0) (res : Value) (c₀ : Nat) (hS : s.heap.get? S = some { cls := .type "list", data := .seq #[] c₀ })
    (hz : ∃ f0, IsZip s.heap z TI TO f0) (hR : ∀ h' tk acc c as, (∀ b o, b ≠ S → b ≠ z → b ≠ TO → b ≠ i1 → b ≠ i2 → s.heap.get? b = some o → h'.get? b = some o) → h'.get? S = some { cls := .type "list", dict := none, data := .seq acc c, slots := #[] } → as.length = kvs.length → KdxG knd kvs S h' as →
      acc.toList = as.map Value.ref → R (.ok (.ret res)) { s with heap := h', toks := tk }) (hn : kvs.length ≤ sizeLine) :
    wpAny (model prog w) A.in1 (Builtin.List.listExtendWith (.ref S) (.ref z) res)
      (fun fin s' => match fin with | .done f => R (.ok f) s' | .again c' => c'.quiet = true ∧ codeAny (model prog w) A c' R s') (fun e s' => R (.error e) s') s := by
  obtain ⟨f0, hz⟩ := hz
  have hT : s.TypeIs (.ref z) "zip" := ⟨_, hz, rfl⟩
  unfold Builtin.List.listExtendWith
  refine wpAny_bind (wpAny_typeOf (T := "zip") hT ?_)
  have h1 : Builtin.List.listSameRef (.ref S) (.ref z) = false := by simp [Builtin.List.listSameRef, Nat.ne_of_gt p.z]
  have h2 : (Value.type "zip" == Value.type "list") = false := by decide
  have h3 : (Value.type "zip" == Value.type "tuple") = false := by decide
  simp only [h1, h2, h3, Bool.or_false, Bool.false_eq_true, if_false]
  refine wpAny_bind (wpAny_pyIter_zip hz ?_)
  refine wpAny_bind (wpAny_holding (zl_room hT ?_))
  refine wpAny_ite_split (fun _ => ?_) (fun z => absurd (by rfl) z)
  refine wpAny_bind (wpAny_rule ?_)
  refine wpAny_bind ?_
  show wpAny _ _ (updateSeq S (·.push .none) >>= fun _ => updateSeq S (·.pop)) _ _ _
  refine wpAny_bind (wpAny_updateSeq hS rfl ?_)
  have hS₂ := Heap.get?_update_self (Obj.mapSeq (·.push Value.none)) hS rfl
  refine wpAny_updateSeq (hz := by seq_fits) hS₂ rfl ?_
  have hS₃ := Heap.get?_update_self (Obj.mapSeq (·.pop)) hS₂ rfl
  have oth : ∀ b o, b ≠ S → s.heap.get? b = some o → ((s.heap.update S (Obj.mapSeq (·.push Value.none))).update S (Obj.mapSeq (·.pop))).get? b = some o := fun b o hb e => (Heap.get?_update_other _ _ (Ne.symm hb)).trans ((Heap.get?_update_other _ _ (Ne.symm hb)).trans e)
  refine wpAny_pure ⟨plainId_quiet PySem.F.plain_extend_loop _, ?_⟩
  exact zl_loop (s := s) (h₁ := s.heap) hh p pr hn res hR kvs.length 0 _ s.toks _ #[] [] (Nat.sub_zero _) (Nat.zero_le _) (st.keep oth p) (fun b o d0 _ _ _ _ e => oth b o d0 e) hS₃ rfl rfl ⟨List.Pairwise.nil, (fun _ ha => nomatch ha), (fun j a hj => by simp at hj)⟩
theorem zl_call {E Q : Value → Shared → Prop} (hh : A.handled = none) (pr : Prs knd kvs xs ys) (D : ZipApart z TI TO i1 i2 l1 l2) (hz : IsZip s.heap z TI TO .none) (hTI : IsPair s.heap TI (.ref i1) (.ref i2)) (hTO : ∃ a b, IsPair s.heap TO a b) (a1 : s.heap.IsListIter i1 l1 0) (a2 : s.heap.IsListIter i2 l2 0) (b1 : s.heap.IsList l1 xs) (b2 : s.heap.IsList l2 ys) (hn : kvs.length ≤ sizeLine)
    (hQ : ∀ h' tk acc c as, (∀ b o, b ≠ z → b ≠ TO → b ≠ i1 → b ≠ i2 → s.heap.get? b = some o → h'.get? b = some o) → h'.get? s.heap.objs.size = some { cls := .type "list", dict := none, data := .seq acc c, slots := #[] } → as.length = kvs.length → KdxG knd kvs s.heap.objs.size h' as →
      acc.toList = as.map Value.ref → Q (.ref s.heap.objs.size) { s with heap := h', toks := tk }) :
    wpAny (model prog w) A (call (.type "list") [.ref z]) Q E s := by
  have lt : ∀ {h : Heap} {l : Addr} {k : Array Value}, h.IsList l k → l < h.objs.size := fun ⟨_, e, _⟩ => Heap.lt_size e
  have lti : ∀ {h : Heap} {i l : Addr} {k : Nat}, h.IsListIter i l k → i < h.objs.size := fun ⟨_, e, _⟩ => Heap.lt_size e
  have p : Zap z TI TO i1 i2 l1 l2 s.heap.objs.size := ⟨D, Heap.lt_size hz, lti a1, lti a2, Heap.lt_size hTI, by obtain ⟨_, _, e⟩ := hTO; exact Heap.lt_size e, lt b1, lt b2⟩
  refine callType_codes (Q₁ := fun obj s₁ => obj = .ref s.heap.objs.size ∧ s₁ = { s with heap := s.heap.push { cls := .type "list", data := .seq #[] } }) PySem.F.called_list (PySem.F.typeCall_list_1 _) PySem.F.entry_list_init
    (code_list_new _ ⟨rfl, rfl⟩) fun obj s₁ h₁ => ?_
  obtain ⟨rfl, rfl⟩ := h₁
  have hS : (s.heap.push { cls := .type "list", data := .seq #[] }).get? s.heap.objs.size = some { cls := .type "list", data := .seq #[] } := Heap.get?_push_size _ rfl
  have up : ∀ b o, s.heap.get? b = some o → (s.heap.push { cls := .type "list", data := .seq #[] }).get? b = some o := fun b o e => Heap.get?_push_of_some _ e
  refine ⟨⟨_, hS, rfl⟩, PySem.F.args_list_init_2 _ _, ?_⟩
  show wpAny _ _ (do let old ← Builtin.List.listItems (.ref s.heap.objs.size); Builtin.List.listUpdate (.ref s.heap.objs.size) (fun _ => #[]); letGo old.toList.reverse; Builtin.List.listExtendWith (.ref s.heap.objs.size) (.ref z) .none) _ _ _
  refine wpAny_bind ?_
  unfold Builtin.List.listItems
  refine wpAny_bind (wpAny_seqItems hS rfl (wpAny_pure ?_))
  show wpAny _ _ (updateSeq s.heap.objs.size (fun _ => #[]) >>= fun _ => letGo (#[] : Array Value).toList.reverse >>= fun _ => Builtin.List.listExtendWith (.ref s.heap.objs.size) (.ref z) .none) _ _ _
  refine wpAny_bind (wpAny_updateSeq hS rfl ?_)
  have hS₂ := Heap.get?_update_self (Obj.mapSeq (fun _ => (#[] : Array Value))) hS rfl
  have oth : ∀ b o, s.heap.get? b = some o → ((s.heap.push { cls := .type "list", data := .seq #[] }).update s.heap.objs.size (Obj.mapSeq (fun _ => (#[] : Array Value)))).get? b = some o :=
    fun b o e => (Heap.get?_update_other _ _ (Nat.ne_of_gt (Heap.lt_size e))).trans (up b o e)
  refine wpAny_bind (wpAny_letGo ?_)
  refine zl_extend (A := A.in1) hh p pr ⟨.inl ⟨rfl, oth _ _ hz, by obtain ⟨a, b, e⟩ := hTO; exact ⟨a, b, oth _ _ e⟩⟩, oth _ _ hTI, a1.at fun o e => oth _ o e, a2.at fun o e => oth _ o e, by obtain ⟨o, e, u⟩ := b1; exact ⟨o, oth _ _ e, u⟩, by obtain ⟨o, e, u⟩ := b2; exact ⟨o, oth _ _ e, u⟩⟩ .none _ hS₂ ⟨_, oth _ _ hz⟩ (fun h' tk acc c as hk hS' hl hG hacc => ?_) hn
  exact ⟨rfl, hQ h' tk acc c as (fun b o d1 d2 d3 d4 e => hk b o (Nat.ne_of_lt (Heap.lt_size e)) d1 d2 d3 d4 (oth b o e)) hS' hl hG hacc⟩
end
end Ol
set_option Elab.async false
set_option linter.all false
set_option maxRecDepth 100000
set_option maxHeartbeats 4000000
/-! own: list(zip(xs, ys)) and dict(pairs) in the language -/
namespace Ol
open PySem PySem.Spec PySem.Calls PyProof.Rows L2
open PySem.W (KdxG)
open LiI (paired_ix)
/-- known tuples, at their addresses -/
def putZ : Hp → List Addr → List (Obj × List V) → Hp
  | H, a :: as, q :: qs => putZ (upd H a (.frz q.1 (.tup q.2))) as qs
  | H, _, _ => H
theorem putZ_off {b : Addr} : ∀ (as : List Addr) (qs : List (Obj × List V)) (H : Hp), b ∉ as → putZ H as qs b = H b
  | [], _, _, _ => rfl
  | _ :: _, [], _, _ => rfl
  | a :: as, q :: qs, H, h => by
    show putZ (upd H a _) as qs b = H b
    rw [putZ_off as qs _ (fun z => h (List.mem_cons_of_mem _ z))]
    exact upd_ne fun z => h (by rw [z]; exact List.mem_cons_self)
theorem putZ_at : ∀ (as : List Addr) (qs : List (Obj × List V)) (H : Hp), as.length = qs.length → as.Nodup → Paired (fun (t : Addr) (q : Obj × List V) => putZ H as qs t = some (.frz q.1 (.tup q.2))) as qs
  | [], [], _, _, _ => .nil
  | [], _ :: _, _, h, _ => by cases h
  | _ :: _, [], _, h, _ => by cases h
  | a :: as, q :: qs, H, h, hn => by
    have nd := List.nodup_cons.mp hn
    refine .cons ?_ (putZ_at as qs (upd H a (.frz q.1 (.tup q.2))) (Nat.succ.inj h) nd.2)
    show putZ (upd H a _) as qs a = _
    rw [putZ_off as qs _ nd.1, upd_same]
abbrev tupO (u v : Value) : Obj := { cls := .type "tuple", data := .seq #[u, v] }
section
variable {X : Cx} {pins : List (Addr × Obj)} {σ : L2.St} {H : Hp} {s : Shared} {h' : Heap}
theorem zip_laid {tk S : Nat} {kvs : List (Key × V)} {vs : List (Key × Value)} {acc : Array Value} {c : Nat} {as : List Addr} (I : Inv X pins σ H s) (hlo : s.heap.objs.size ≤ S) (hz : kvs.length ≤ sizeLine) (kv : KV kvs vs)
    (hk : ∀ b o, s.heap.get? b = some o → h'.get? b = some o) (hS : h'.get? S = some { cls := .type "list", dict := none, data := .seq acc c, slots := #[] }) (hl : as.length = vs.length) (hG : KdxG (mixKind X.prog X.w) vs S h' as) (hacc : acc.toList = as.map Value.ref) :
    ∃ (H' : Hp) (obs : List Obj), obs.length = as.length ∧ (∀ o ∈ obs, o.dict = none) ∧ H' = putZ (upd H S (.lst (as.map V.ref))) as (obs.zip (kvs.map fun q => [kV q.1, q.2])) ∧ S ∉ as ∧ as.Nodup ∧ (∀ t ∈ as, H t = none) ∧ H S = none ∧ Inv X pins σ H' { s with heap := h', toks := tk } := by
  have lk : kvs.length = vs.length := Paired.length kv
  have noS : S ∉ as := fun z => Nat.lt_irrefl _ (hG.above _ z)
  have nd : as.Nodup := List.Pairwise.imp (fun {a b} (h : a < b) => Nat.ne_of_lt h) hG.rise
  have new : ∀ t ∈ as, H t = none := fun t ht => I.hok.fresh (Nat.le_of_lt (Nat.lt_of_le_of_lt hlo (hG.above t ht)))
  have newS : H S = none := I.hok.fresh hlo
  have ex : ∃ obs : List Obj, obs.length = as.length ∧ (∀ o ∈ obs, o.dict = none) ∧ ∀ (j : Nat) (a : Addr) (o : Obj), as[j]? = some a → obs[j]? = some o → h'.get? a = some o ∧ ∃ key k x, vs[j]? = some (k, x) ∧ (mixKind X.prog X.w).is k key = true ∧ o = tupO key x := by
    refine ⟨as.map fun a => (h'.get? a).getD (tupO .none .none), by simp, fun o ho => ?_, fun j a o e1 e2 => ?_⟩
    · obtain ⟨a, ha, rfl⟩ := List.mem_map.mp ho
      obtain ⟨j, hj⟩ := List.mem_iff_getElem?.mp ha
      obtain ⟨key, k, x, f1, f2, f3⟩ := hG.pairs j a hj
      rw [f3]
      rfl
    · obtain ⟨key, k, x, f1, f2, f3⟩ := hG.pairs j a e1
      rw [List.getElem?_map, e1] at e2
      simp only [Option.map_some, Option.some.injEq] at e2
      rw [f3] at e2
      subst e2
      exact ⟨f3, key, k, x, f1, f2, rfl⟩
  obtain ⟨obs, o1, o2, o3⟩ := ex
  have lz : as.length = (obs.zip (kvs.map fun q => [kV q.1, q.2])).length := by rw [List.length_zip, List.length_map]; omega
  have atP := putZ_at as (obs.zip (kvs.map fun q => [kV q.1, q.2])) (upd H S (.lst (as.map V.ref))) lz nd
  have off : ∀ b, b ∉ as → b ≠ S → putZ (upd H S (.lst (as.map V.ref))) as (obs.zip (kvs.map fun q => [kV q.1, q.2])) b = H b := fun b h1 h2 => by rw [putZ_off as _ _ h1, upd_ne h2]
  have low : ∀ b o, s.heap.get? b = some o → b ∉ as ∧ b ≠ S := fun b o e => ⟨fun z => absurd (Heap.lt_size e) (Nat.not_lt.mpr (Nat.le_trans hlo (Nat.le_of_lt (hG.above b z)))), fun z => absurd (Heap.lt_size e) (Nat.not_lt.mpr (by rw [z]; exact hlo))⟩
  have kp : ∀ b u, H b = some u → (putZ (upd H S (.lst (as.map V.ref))) as (obs.zip (kvs.map fun q => [kV q.1, q.2]))) b = some u := fun b u e => by
    rw [off b (fun z => by rw [new b z] at e; cases e) (fun z => by rw [z, newS] at e; cases e)]
    exact e
  have eS : putZ (upd H S (.lst (as.map V.ref))) as (obs.zip (kvs.map fun q => [kV q.1, q.2])) S = some (.lst (as.map V.ref)) := by rw [putZ_off as _ _ noS, upd_same]
  refine ⟨_, obs, o1, o2, rfl, noS, nd, new, newS, ?_⟩
  refine I.call' (ch := []) rfl ⟨fun b o q _ _ _ => hk b o q, fun b o q _ _ _ => ⟨o.slots, hk b o q⟩, fun b o q n _ => ?_, fun b o q _ => ⟨o, hk b o q⟩, fun b xs q => kp b _ q, fun b o u q => kp b _ q, fun b ps q => ⟨#[], by rw [kp b _ q]; simp⟩⟩ (fun b u q => ?_) I.bare fun b z => by simp at z
  · obtain ⟨z1, z2⟩ := low b o q
    rw [off b z1 z2]
    exact n
  · by_cases hb : b ∈ as
    · obtain ⟨j, ⟨ob, vv⟩, e1, e2, e3⟩ := paired_ix atP hb
      rw [e3] at q
      cases q
      rw [List.getElem?_zip_eq_some] at e2
      obtain ⟨g1, g2⟩ := e2
      obtain ⟨f0, key, k, x, f1, f2, f3⟩ := o3 j b ob e1 g1
      rw [List.getElem?_map] at g2
      obtain ⟨pk, g3, g4⟩ := Option.map_eq_some_iff.mp g2
      obtain ⟨qv, w1, w2, w3⟩ := paired_get kv g3
      rw [f1] at w1
      cases w1
      have rk : RelV (kV pk.1) key := by
        rw [w2]
        exact relV_key (show keyIs k key = true from f2)
      subst g4
      refine ⟨f0, by show 2 ≤ sizeLine; decide, [key, x], .cons rk (.cons w3 .nil), ⟨_, f0, by rw [f3], _, by rw [f3]⟩⟩
    · by_cases hb2 : b = S
      · rw [hb2] at q ⊢
        rw [eS] at q
        cases q
        refine ⟨by rw [List.length_map]; omega, acc.toList, c, by rw [hacc]; exact vals_refs as, ?_⟩
        rw [Array.toArray_toList]
        exact hS
      · rw [off b hb hb2] at q
        exact (I.hok b u q).stay (fun d v _ y => hk d v y) (fun d y => kp d _ y) fun d xs y => kp d _ y
end
/-- list(zip(xs, ys)): texts and any values, as many -/
def rLZ (K : Fg) : List V → Hp → VK → Prop := fun vs H Q => ∃ (a b : Addr) (ks : List Str) (ws : List V), vs = [.ref a, .ref b] ∧ SqL K H a (ks.map V.str) ∧ SqL K H b ws ∧ ks.length = ws.length ∧
  ∀ (p : Addr) (as : List Addr) (obs : List Obj), obs.length = as.length → as.length = ks.length → (∀ o ∈ obs, o.dict = none) → p ∉ as → as.Nodup → (∀ t ∈ as, H t = none) → H p = none → Q (.ref p) (putZ (upd H p (.lst (as.map V.ref))) as (obs.zip ((ks.zip ws).map fun q => [V.str q.1, q.2])))
def tLZ (K : Fg) (t : TA) : TE := fun σ H Q => t σ H fun vs H1 => rLZ K vs H1 Q
theorem kv_zip : ∀ {ks : List Str} {ws : List V} {us : List Value}, Vals ws us → ks.length = ws.length → KV ((ks.zip ws).map fun q => ((Sum.inr q.1 : Key), q.2)) ((ks.map (Sum.inr : Str → Key)).zip us)
  | [], _, _, _, _ => .nil
  | k :: ks, _, _, .cons r t, h => .cons ⟨rfl, r⟩ (kv_zip t (Nat.succ.inj h))
  | _ :: _, _, _, .nil, h => by cases h
theorem prs_zip {P : Program} {w : World} {ks : List Str} {its us : List Value} (r : Vals (ks.map V.str) its) (h : ks.length = us.length) : Prs (mixKind P w) ((ks.map (Sum.inr : Str → Key)).zip us) its.toArray us.toArray := by
  have l1 := r.length
  rw [List.length_map] at l1
  refine ⟨by rw [List.length_zip, List.length_map, List.size_toArray]; omega, fun j k v e => ?_⟩
  rw [List.getElem?_zip_eq_some, List.getElem?_map] at e
  obtain ⟨e1, e2⟩ := e
  obtain ⟨z, e3, rfl⟩ := Option.map_eq_some_iff.mp e1
  obtain ⟨u, hu, ru⟩ := r.get (i := j) (by rw [List.getElem?_map, e3]; rfl)
  obtain ⟨t, rfl⟩ := ru
  exact ⟨.str z t, by simpa using hu, by simpa using e2, by show keyIs (.inr z) (.str z t) = true; simp [keyIs, Value.isStrOf]⟩
section
variable {X : Cx} {e e2 : Expr} {ta : TA} {x1 x2 : Str} {p p2 pos pos2 : Pos}
theorem pe_lz (hc : X.calm = true) (hg : Gl X "list") (hm : X.mg "list" = none) (hg2 : Gl X "zip") (hm2 : X.mg "zip" = none) (hv : bootBuiltins "list" = some (.type "list")) (ha : PA X [e, e2] ta)
    (hs : starEach [.Call (.Name "zip" p2) [e, e2] [] pos2] X.env = (false, eval (.Call (.Name "zip" p2) [e, e2] [] pos2) X.env) :: starEach [] X.env := by rfl)
    (hs2 : starEach [e, e2] X.env = (false, eval e X.env) :: starEach [e2] X.env := by rfl) (hpl : (backTo pos2 (starEach [e2] X.env)).any (·.1) = false := by rfl) :
    PE X (.Call (.Name "list" p) [.Call (.Name "zip" p2) [e, e2] [] pos2] [] pos) (tLZ X.K ta) := by
  refine ⟨fun pins s σ H Q I hq => ?_⟩
  refine wpAny_Call_Name_kw (ld_blt I hg hm hv ?_)
  refine PyProof.Rows.callWith_type1 ?_ hs rfl
  rw [hs]
  show wpAny _ _ (spliced ((false, eval (.Call (.Name "zip" p2) [e, e2] [] pos2) X.env) :: backTo pos (starEach [] X.env))) _ _ s
  refine Calls.spliced_cons ?_
  refine Call_ (ld_blt I hg2 hm2 PyProof.Rows.boot_zip (PyProof.Rows.callWith_type1 (thn (ha.run pos2 pins s σ H _ I hq) fun us s1 ⟨vs, H1, I1, r1, q1⟩ => ?_) hs2 hpl))
  obtain ⟨a, b, ks, ws, rfl, ka, kb, hl, q⟩ := q1
  cases r1 with
  | cons ra r2 =>
    cases r2 with
    | cons rb r3 =>
      cases r3
      cases ra
      cases rb
      obtain ⟨its, rv, pl, hz⟩ := I1.list ka
      obtain ⟨its2, rv2, pl2, hz2⟩ := I1.list kb
      refine call_zip_2 pl.isList pl2.isList fun h1 z1 z2 z3 z4 z5 z6 z7 => ?_
      refine Calls.spliced_nil ?_
      have lw := rv2.length
      have N := s1.heap.objs.size
      have lo : ∀ b o, s1.heap.get? b = some o → b ≠ s1.heap.objs.size + 4 ∧ b ≠ s1.heap.objs.size + 3 ∧ b ≠ s1.heap.objs.size ∧ b ≠ s1.heap.objs.size + 1 := fun b o e => by
        have hb := Heap.lt_size e
        exact ⟨Nat.ne_of_lt (Nat.lt_of_lt_of_le hb (Nat.le_add_right _ _)), Nat.ne_of_lt (Nat.lt_of_lt_of_le hb (Nat.le_add_right _ _)), Nat.ne_of_lt hb, Nat.ne_of_lt (Nat.lt_of_lt_of_le hb (Nat.le_add_right _ _))⟩
      have ls : ((ks.map (Sum.inr : Str → Key)).zip its2).length = ks.length := by rw [List.length_zip, List.length_map]; omega
      rw [List.length_map] at hz
      refine zl_call (s := { s1 with heap := h1 }) (knd := mixKind X.prog X.w) (kvs := (ks.map (Sum.inr : Str → Key)).zip its2) (xs := its.toArray) (ys := its2.toArray) (I1.ok.hd hc) (prs_zip rv (by omega)) (PySem.W.ktu_apart s1.heap.objs.size a b pl.lt pl2.lt) z1 z2 ⟨_, _, z3⟩ z4 z5 (by obtain ⟨o, e, u⟩ := pl.isList; exact ⟨o, z7 _ _ e, u⟩) (by obtain ⟨o, e, u⟩ := pl2.isList; exact ⟨o, z7 _ _ e, u⟩) (by rw [ls]; exact hz) fun h' tk acc c as hk hS hlen hG hacc => ?_
      have kpt : ∀ b o, s1.heap.get? b = some o → h'.get? b = some o := fun b o e => by
        obtain ⟨n1, n2, n3, n4⟩ := lo b o e
        exact hk b o n1 n2 n3 n4 (z7 b o e)
      obtain ⟨H', obs, o1, o2, eH, f1, f2, f3, f4, J⟩ := zip_laid (tk := tk) I1 (by show s1.heap.objs.size ≤ h1.objs.size; omega) (by rw [List.length_map, List.length_zip]; omega) (kv_zip (ks := ks) rv2 hl) kpt hS hlen hG hacc
      refine ⟨.ref _, H', J, rfl, ?_⟩
      rw [List.map_map] at eH
      rw [eH]
      exact q _ as obs o1 (by rw [hlen, ls]) o2 f1 f2 f3 f4
end
end Ol
set_option Elab.async false
set_option linter.all false
set_option maxRecDepth 100000
set_option maxHeartbeats 4000000
/-! own: list(zip(xs, ys)), dict(pairs), list(dict), a tuple with one's own objects comes to be data -/
namespace Ol
open PySem PySem.Spec PyProof.Rows L2
def oLZ : List RV → Option PV
  | [.d (.list ks), .d (.list ws)] => (strsOf ks).bind fun zs => if zs.length = ws.length then some (.new (.lst ((zs.zip ws).map fun q => .tuple [.str q.1, q.2]))) else none
  | _ => none
theorem dp_pairs {K : Fg} {Hb Hb0 : Hp} (e : Ex Hb0 Hb) : ∀ {as : List Addr} {obs : List Obj} {zs : List Str} {ds : List D} {vs : List V}, DpAll K Hb0 vs ds → obs.length = as.length → as.length = zs.length → zs.length = ds.length → (∀ o ∈ obs, o.dict = none) →
    Paired (fun (t : Addr) (q : Obj × List V) => Hb t = some (.frz q.1 (.tup q.2))) as (obs.zip ((zs.zip vs).map fun q => [V.str q.1, q.2])) → DpAll K Hb (as.map V.ref) ((zs.zip ds).map fun q => .tuple [.str q.1, q.2])
  | [], _, [], [], _, .nil, _, _, _, _, _ => .nil
  | [], _, _ :: _, _, _, _, _, h, _, _, _ => by cases h
  | [], _, [], _ :: _, _, _, _, _, h, _, _ => by cases h
  | _ :: _, _, [], _, _, _, _, h, _, _, _ => by cases h
  | _ :: _, _, _ :: _, [], _, _, _, _, h, _, _ => by cases h
  | _ :: _, [], _ :: _, _ :: _, _, _, h, _, _, _, _ => by cases h
  | a :: as, ob :: obs, z :: zs, d :: ds, _, .cons (v := v) r t, h1, h2, h3, h4, .cons q qs => by
    refine .cons (.tup (.inl (.inr ⟨ob, q⟩)) (.cons (.str z) (.cons (Dp.ex e r) .nil)) fun _ => ⟨ob, _, q, h4 ob List.mem_cons_self⟩) ?_
    exact dp_pairs e t (Nat.succ.inj h1) (Nat.succ.inj h2) (Nat.succ.inj h3) (fun o ho => h4 o (List.mem_cons_of_mem _ ho)) qs
theorem s_lz {Z : Zn} : OpN Z (rLZ Z.K) oLZ := by
  intro Hb H vs rs pv e rr h Q q
  unfold oLZ at h
  split at h
  · rename_i ks ws
    simp only [Option.bind_eq_some_iff] at h
    obtain ⟨zs, h1, h2⟩ := h
    split at h2
    · rename_i hl
      cases h2
      have hd := strsOf_eq h1
      subst hd
      cases rr with
      | cons r1 rr =>
        cases rr with
        | cons r2 rr =>
          cases rr
          cases r1 with
          | lst s1 t1 =>
            cases r2 with
            | lst s2 t2 =>
              have hv := DpAll.strs_inv t1
              subst hv
              have lv := DpAll.length t2
              refine ⟨_, _, zs, _, rfl, s1, s2, by omega, fun p as obs o1 o2 o3 o4 o5 o6 o7 => ?_⟩
              generalize hqs : obs.zip ((zs.zip _).map fun q => [V.str q.1, q.2]) = qs
              have lq : as.length = qs.length := by rw [← hqs, List.length_zip, List.length_map, List.length_zip]; omega
              have nb : ∀ b u, Hb b = some u → b ∉ as := fun b u z m => by have := e b u z; rw [o6 b m] at this; cases this
              have nh : ∀ b, H b ≠ none → b ∉ as := fun b z m => z (o6 b m)
              have np : Hb p = none := e.free o7
              have kb : Ex Hb (putZ Hb as qs) := fun b u z => by rw [putZ_off as qs _ (nb b u z)]; exact z
              have kh : Ex H (putZ (upd H p (.lst (as.map V.ref))) as qs) := fun b u z => by
                rw [putZ_off as qs _ (nh b (by rw [z]; simp)), upd_ne (fun w => by rw [w, o7] at z; cases z)]
                exact z
              have at1 := putZ_at as qs Hb lq o5
              have at2 := putZ_at as qs (upd H p (.lst (as.map V.ref))) lq o5
              have sub : Ex (putZ Hb as qs) (putZ (upd H p (.lst (as.map V.ref))) as qs) := fun b u z => by
                by_cases hb : b ∈ as
                · obtain ⟨j, y, e1, e2, e3⟩ := LiI.paired_ix at1 hb
                  obtain ⟨y', e4, e5⟩ := LiI.paired_get at2 e1
                  rw [e2] at e4
                  cases e4
                  rw [e5, ← e3]
                  exact z
                · rw [putZ_off as qs _ hb] at z
                  exact kh b u (e b u z)
              refine q _ (putZ Hb as qs) _ (Nx.mk' kb sub kh fun b z1 z2 => by rw [putZ_off as qs _ (nh b z1)]; exact z2) (.new o7 (by rw [putZ_off as qs _ o4]; exact np) (.lst (by rw [putZ_off as qs _ o4, upd_same]) ?_))
              rw [← hqs] at at1
              have z := dp_pairs kb t2 o1 o2 hl o3 (by rw [hqs]; rw [hqs] at at1; exact at1)
              exact z
    · cases h2
  · cases h
/-! dict(pairs) -/
def pairK : D → Option (Key × D)
  | .tuple [.str k, v] => some (.inr k, v)
  | _ => none
def pairsK : List D → Option (List (Key × D))
  | [] => some []
  | d :: r => (pairK d).bind fun p => (pairsK r).bind fun ps => some (p :: ps)
def mergeD (kvs more : List (Key × D)) : List (Key × D) := more.foldl (fun acc kv => putD acc kv.1 kv.2) kvs
def oDictP : List RV → Option PV
  | [.d (.list ds)] => (pairsK ds).bind fun ps => some (.new (.dic (mergeD [] ps)))
  | _ => none
theorem pairK_some {d : D} {k : Key} {v : D} (h : pairK d = some (k, v)) : ∃ s, k = .inr s ∧ d = .tuple [.str s, v] := by
  unfold pairK at h
  split at h
  · cases h; exact ⟨_, rfl, rfl⟩
  · cases h
theorem pairsK_dp {K : Fg} {Hb H : Hp} (e : Ex Hb H) : ∀ {ds : List D} {vs : List V} {ps : List (Key × D)}, DpAll K Hb vs ds → pairsK ds = some ps → ∃ (as : List Addr) (us : List (Key × V)), vs = as.map V.ref ∧ Paired (fun p kv => SqT K H p [kV kv.1, kv.2]) as us ∧ us.map (·.1) = ps.map (·.1) ∧ DpAll K Hb (us.map (·.2)) (ps.map (·.2))
  | [], _, _, h, z => by
    cases h; cases z
    exact ⟨[], [], rfl, .nil, rfl, .nil⟩
  | d :: ds, _, _, h, z => by
    cases h with
    | cons r t =>
      simp only [pairsK, Option.bind_eq_some_iff] at z
      obtain ⟨⟨k, v⟩, z1, ps, z2, z3⟩ := z
      cases z3
      obtain ⟨s, rfl, rfl⟩ := pairK_some z1
      obtain ⟨as, us, rfl, i2, i3, i4⟩ := pairsK_dp e t z2
      cases r with
      | tup q qs _ =>
        cases qs with
        | cons q1 qs =>
          cases qs with
          | cons q2 qs =>
            cases qs
            cases q1
            exact ⟨_ :: as, (.inr s, _) :: us, rfl, .cons (sqt_ex e q) i2, by rw [List.map_cons, List.map_cons, i3], .cons q2 i4⟩
theorem merge_dp {K : Fg} {Hb : Hp} : ∀ {us : List (Key × V)} {ps : List (Key × D)} {us0 : List (Key × V)} {ps0 : List (Key × D)}, us0.map (·.1) = ps0.map (·.1) → DpAll K Hb (us0.map (·.2)) (ps0.map (·.2)) → us.map (·.1) = ps.map (·.1) → DpAll K Hb (us.map (·.2)) (ps.map (·.2)) →
    (mergeK us0 us).map (·.1) = (mergeD ps0 ps).map (·.1) ∧ DpAll K Hb ((mergeK us0 us).map (·.2)) ((mergeD ps0 ps).map (·.2))
  | [], [], _, _, h1, h2, _, _ => ⟨h1, h2⟩
  | [], _ :: _, _, _, _, _, h, _ => by cases h
  | _ :: _, [], _, _, _, _, h, _ => by cases h
  | (k, u) :: us, (k', d) :: ps, us0, ps0, h1, h2, h3, h4 => by
    simp only [List.map_cons, List.cons.injEq] at h3
    obtain ⟨rfl, h3⟩ := h3
    cases h4 with
    | cons r t =>
      have z := putK_map (k := k) (K := K) h1 h2 r
      exact merge_dp (us0 := putK us0 k u) (ps0 := putD ps0 k d) z.1 z.2 h3 t
theorem s_dictP {Z : Zn} : OpN Z (fun xs H Q => ∃ (a : Addr) (ps : List Addr) (kvs : List (Key × V)), xs = [.ref a] ∧ SqL Z.K H a (ps.map V.ref) ∧ Paired (fun p kv => SqT Z.K H p [kV kv.1, kv.2]) ps kvs ∧ ∀ p, H p = none → Q (.ref p) (upd H p (.dK (mergeK [] kvs)))) oDictP := by
  intro Hb H vs rs pv e rr h Q q
  unfold oDictP at h
  split at h
  · simp only [Option.bind_eq_some_iff] at h
    obtain ⟨ps, h1, h2⟩ := h
    cases h2
    obtain ⟨v, rfl, r⟩ := rdrs1 rr
    cases r with
    | lst s t =>
      obtain ⟨as, us, rfl, i2, i3, i4⟩ := pairsK_dp e t h1
      obtain ⟨m1, m2⟩ := merge_dp (us0 := []) (ps0 := []) rfl .nil i3 i4
      exact ⟨_, as, us, rfl, s, i2, fun p hp => q _ _ _ (Nx.newOwn e hp) (.new hp (e.free hp) (.dic upd_same m1 m2))⟩
  · cases h
/-! list(d), keys that are texts or ints -/
def keyD : Key → D
  | .inl i => .int i
  | .inr s => .str s
def oListM : List RV → Option PV
  | [.m kvs] => some (.new (.lst (kvs.map fun q => keyD q.1)))
  | _ => none
theorem keys_dp {K : Fg} {Hb : Hp} : ∀ {us : List (Key × V)} {kvs : List (Key × D)}, us.map (·.1) = kvs.map (·.1) → DpAll K Hb (us.map fun kv => kV kv.1) (kvs.map fun q => keyD q.1)
  | [], [], _ => .nil
  | [], _ :: _, h => by cases h
  | _ :: _, [], h => by cases h
  | (k, u) :: us, (k', d) :: kvs, h => by
    simp only [List.map_cons, List.cons.injEq] at h
    obtain ⟨rfl, h⟩ := h
    refine .cons ?_ (keys_dp h)
    cases k with
    | inl i => exact .int i
    | inr s => exact .str s
theorem s_listM {Z : Zn} : OpN Z (fun xs H Q => ∃ (a : Addr) (kvs : List (Key × V)), xs = [.ref a] ∧ Rd H a (.dK kvs) ∧ ∀ p, H p = none → Q (.ref p) (upd H p (.lst (kvs.map fun kv => kV kv.1)))) oListM := by
  intro Hb H vs rs pv e rr h Q q
  unfold oListM at h
  split at h
  · cases h
    obtain ⟨v, rfl, r⟩ := rdrs1 rr
    cases r with
    | m ow =>
      cases ow with
      | dic w1 w2 w3 => exact ⟨_, _, rfl, .inl w1, fun p hp => q _ _ _ (Nx.newOwn e hp) (.new hp (e.free hp) (.lst upd_same (keys_dp w2)))⟩
  · cases h
/-! a tuple that holds one's own objects comes to be data -/
def frTup : PV → Option PV
  | .tup ps => (fzs ps).bind fun ds => if ds.all isS = true then none else some (.d (.tuple ds))
  | p => some p
def mFrT (a : ME) : ME := fun env => (a env).bind fun x => (frTup x.1).bind fun p => some (p, x.2)
theorem re_frT {Z : Zn} {a : ME} {σ : L2.St} {H : Hp} {Q : VK} (h : tI Z (mFrT a) σ H Q) : tI Z a σ H Q := by
  obtain ⟨B, Hb, env, pv, env', st, e, q⟩ := h
  simp only [mFrT, Option.bind_eq_some_iff] at e
  obtain ⟨⟨x, e1⟩, ha, p, h1, h2⟩ := e
  cases h2
  refine ⟨B, Hb, env, x, _, st, ha, fun v Hb' H' g rv => ?_⟩
  cases x with
  | tup ps =>
    simp only [frTup, Option.bind_eq_some_iff] at h1
    obtain ⟨ds, f, h3⟩ := h1
    split at h3
    · cases h3
    · rename_i hn
      cases h3
      cases rv with
      | tup s t =>
        obtain ⟨Hb2, k, _, hd⟩ := t.know g.st.sub f
        exact q _ Hb2 _ (g.know st k) (.d (.tup (sqt_ex k.kb s) hd fun z => absurd z hn))
  | d y => cases h1; exact q _ _ _ g rv
  | new o => cases h1; exact q _ _ _ g rv
  | slot i => cases h1; exact q _ _ _ g rv
section
variable {X : Cx} {e : Expr} {ma : ME}
theorem gFrT {e : Expr} (h : PE X e (tI (zn X) (mFrT ma))) : PE X e (tI (zn X) (mFrT ma)) := h
theorem iE_frT (h : PE X e (tI (zn X) ma)) : PE X e (tI (zn X) (mFrT ma)) := pe_mono h fun σ H Q => re_frT
theorem iE_lz {e1 e2 : Expr} {mas : MA} {p p2 pos pos2 : Pos} (hc : X.calm = true) (hg : Gl X "list") (hm : X.mg "list" = none) (hg2 : Gl X "zip") (hm2 : X.mg "zip" = none) (hv : bootBuiltins "list" = some (.type "list")) (ha : PA X [e1, e2] (tIA (zn X) mas))
    (hs : starEach [.Call (.Name "zip" p2) [e1, e2] [] pos2] X.env = (false, eval (.Call (.Name "zip" p2) [e1, e2] [] pos2) X.env) :: starEach [] X.env := by rfl)
    (hs2 : starEach [e1, e2] X.env = (false, eval e1 X.env) :: starEach [e2] X.env := by rfl) (hpl : (backTo pos2 (starEach [e2] X.env)).any (·.1) = false := by rfl) :
    PE X (.Call (.Name "list" p) [.Call (.Name "zip" p2) [e1, e2] [] pos2] [] pos) (tI (zn X) (mB oLZ mas)) := pe_mono (pe_lz hc hg hm hg2 hm2 hv ha hs hs2 hpl) fun σ H Q => re_mB s_lz
end
end Ol
set_option Elab.async false
set_option linter.all false
set_option maxRecDepth 100000
set_option maxHeartbeats 4000000
/-! own: for a, b in zip(xs, ys), xs without texts -/
namespace Ol
open PySem PySem.Spec PyProof.Rows L2
section
variable {Z : Zn} {σ : L2.St} {H : Hp} {Hb : Hp}
def zipD : List D → List D → List D
  | a :: r, b :: t => .tuple [a, b] :: zipD r t
  | _, _ => []
theorem zipD_len : ∀ {as bs : List D}, (zipD as bs).length = min as.length bs.length
  | [], _ => by simp [zipD]
  | _ :: _, [] => by simp [zipD]
  | _ :: r, _ :: t => by simp [zipD, zipD_len (as := r) (bs := t)]
theorem zipD_get : ∀ {as bs : List D} {i : Nat} {a b : D}, as[i]? = some a → bs[i]? = some b → (zipD as bs)[i]? = some (.tuple [a, b])
  | [], _, _, _, _, h, _ => by simp at h
  | _ :: _, [], _, _, _, _, h => by simp at h
  | x :: r, y :: t, 0, a, b, h, h2 => by simp at h h2; subst h; subst h2; rfl
  | x :: r, y :: t, i + 1, a, b, h, h2 => by
    have z := zipD_get (as := r) (bs := t) (i := i) (a := a) (b := b) (by simpa using h) (by simpa using h2)
    simpa [zipD] using z
@[simp] def mZip (a : MA) : MI := fun env => (a env).bind fun xs => match xs.1 with
  | [.d (.list as), .d (.list bs)] => if as.any isS then none else some (zipD as bs, xs.2)
  | _ => none
theorem itr_zip {xs ys : List V} {as bs : List D} {a b : Addr} (qx : SqL Z.K Hb a xs) (qy : SqL Z.K Hb b ys) (t1 : DpAll Z.K Hb xs as) (t2 : DpAll Z.K Hb ys bs) (no : as.any isS = false) : ItR Z (Itz Z.K a b) (zipD as bs) Hb := by
  refine ⟨_, _, walk_zip (xs := xs) (ys := ys) (by rw [zipD_len, DpAll.length t1, DpAll.length t2]), fun H e => ⟨sql_ex e qx, sql_ex e qy⟩, fun i Hb1 H x H' hi e1 e2 y => ?_⟩
  obtain ⟨T, u, v, rfl, hT, rfl, hu, hv⟩ := y
  rw [zipD_len] at hi
  have d1 := List.getElem?_eq_getElem (show i < as.length by omega)
  have d2 := List.getElem?_eq_getElem (show i < bs.length by omega)
  obtain ⟨u', m1, p1⟩ := DpAll.get t1 d1
  obtain ⟨v', m2, p2⟩ := DpAll.get t2 d2
  have hu' : xs[i]? = some u := hu
  have hv' : ys[i]? = some v := hv
  rw [hu'] at m1
  rw [hv'] at m2
  cases m1
  cases m2
  have k1 : Ex Hb (upd Hb1 T (.tup [u, v])) := e1.trans (Ex.new (e2.free hT))
  have nos : isS as[i] = false := by
    have := List.any_eq_false.mp no as[i] (List.getElem_mem _)
    simpa using this
  exact ⟨upd Hb1 T _, _, Nx.new e2 hT, zipD_get d1 d2, .tup (.inl (.of upd_same)) (.cons (Dp.ex k1 p1) (.cons (Dp.ex k1 p2) .nil)) fun z => by simp [nos] at z⟩
theorem ri_zip {a : MA} {R : It → Hp → Prop} (h : tII Z (mZip a) σ H R) : iZip Z.K (tIA Z a) σ H R := by
  obtain ⟨B, Hb, env, ds, env', st, e, q⟩ := h
  simp only [mZip, Option.bind_eq_some_iff] at e
  obtain ⟨⟨xs, e1⟩, ha, e⟩ := e
  refine ⟨B, Hb, env, xs, e1, st, ha, fun vs ps Hb1 H1 g1 rv => ?_⟩
  split at e
  · rename_i x1 as bs hx
    have hx' : xs = _ := hx
    subst hx'
    split at e
    · cases e
    · rename_i no
      cases e
      obtain ⟨Hb2, g2, hd⟩ := g1.kn (ds := [.list as, .list bs]) st rv rfl
      obtain ⟨v, w, rfl, d1, d2⟩ := dp2 hd
      cases d1 with
      | lst s t => cases d2 with
        | lst s2 t2 => exact ⟨_, _, _, _, rfl, sql_ex g2.st.sub s, sql_ex g2.st.sub s2, q _ Hb2 H1 g2 (itr_zip s s2 t t2 (by simpa using no))⟩
  · cases e
end
section
variable {X : Cx} {p pos tpos : Pos} {mas : MA} {Z : Zn} {tg e : Expr} {l : MA}
theorem gIzp (h : PI X tg e (tII Z (mZip l))) : PI X tg e (tII Z (mZip l)) := h
theorem iI_zip {a1 a2 : Expr} {elts : List Expr} {kk : Nat} (hg : Gl X "zip") (hm : X.mg "zip" = none) (ha : PA X [a1, a2] (tIA (zn X) mas))
    (hs : starEach [a1, a2] X.env = (false, eval a1 X.env) :: starEach [a2] X.env := by rfl) (hpl : (backTo pos (starEach [a2] X.env)).any (·.1) = false := by rfl) :
    PI X (.Tuple elts kk tpos) (.Call (.Name "zip" p) [a1, a2] [] pos) (tII (zn X) (mZip mas)) :=
  ⟨fun pins s σ H R I q => (pi_zip hg hm ha hs hpl).run pins s σ H R I (ri_zip q)⟩
end
end Ol
set_option Elab.async false
set_option linter.all false
set_option maxRecDepth 100000
set_option maxHeartbeats 4000000
/-! own: xs[c:] = [] -/
namespace Ol
open PySem PySem.Spec PyProof.Rows L2
section
variable {prog : Program} {w : World} {A : Around} {E : Value → Shared → Prop} {s : Shared}
theorem bounds_tail {a n : Nat} (h : a ≤ n) : sliceBounds (some (a : Int)) none none n = ((a : Int), (n : Int), 1) := by
  have h1 : ¬ ((a : Int) < 0) := by omega
  simp only [sliceBounds, Option.getD_none, h1, if_false, show (1 : Int) > 0 by decide, if_true]
  congr 1
  omega
/-- all from a place on goes, the other list has no items -/
theorem set_tail {l b sl : Addr} {items : Array Value} {n n2 : Nat} {vl vu : Value} {a : Nat} {Q : Unit → Shared → Prop}
    (e : s.heap.get? l = some { cls := .type "list", data := .seq items n }) (e2 : s.heap.get? b = some { cls := .type "list", data := .seq #[] n2 }) (hne : l ≠ b)
    (hs : s.heap.IsSliceOf sl vl vu .none) (pl : IsPart vl (some (a : Int))) (pu : IsPart vu none) (ha : a ≤ items.size)
    (hsz : items.size ≤ sizeLine) (h : Q () { s with heap := s.heap.update l (Obj.mapSeq fun xs => xs.extract 0 a ++ #[] ++ xs.extract items.size xs.size) }) :
    wpAny (model prog w) A (setItem (.ref l) (.ref sl) (.ref b)) Q E s := by
  have Ll : s.heap.IsList l items := PySem.IsL.isList e
  have Lb : s.heap.IsList b #[] := PySem.IsL.isList e2
  obtain ⟨so, so1, so2, so3⟩ := id hs
  have T : s.TypeIs (.ref sl) "slice" := ⟨so, so1, so2⟩
  have other : Builtin.List.listSameRef (.ref l) (.ref b) = false := by
    unfold Builtin.List.listSameRef
    exact beq_eq_false_iff_ne.mpr hne
  have top : (max (a : Int) (items.size : Int)).toNat = items.size := by omega
  have fits : ((fun xs : Array Value => xs.extract 0 a ++ #[] ++ xs.extract items.size xs.size) items).size ≤ sizeLine + 1 := by
    simp only [Array.size_append, Array.size_extract, Array.size_empty]
    omega
  unfold setItem
  try with_reducible refine wpAny_holding ?_
  first | refine wpAny_bind (wpAny_pure ?_) | skip
  refine wpAny_bind (wpAny_sequenceKey Ll.typeIs (by decide) ?_)
  refine wpAny_bind (wpAny_callSpecial?_slot (name := Str.ofString "__setitem__") Ll.typeIs slot_list_setitem (wpAny_call_entry slot_list_setitem Ll.typeIs entry_list_setitem ?_ (args_list_setitem _ _ _)))
  show wpAny _ _ (Builtin.List.listSubscript? (.ref sl) >>= _) _ _ s
  refine wpAny_bind ?_
  unfold Builtin.List.listSubscript?
  refine wpAny_bind (wpAny_specialOf T slice_no_index ?_)
  simp only [Option.isNone_none, if_true]
  refine wpAny_pure ?_
  show wpAny _ _ (typeOf (.ref sl) >>= _) _ _ s
  refine wpAny_bind (wpAny_typeOf T ?_)
  first
    | rw [if_neg (by decide)]
    | refine PySem.W.KFB.if_not (by decide) ?_
  rw [listSliceParts_eq]
  refine wpAny_bind (wpAny_bind (wpAny_field so1 so3 (x := .none) rfl (wpAny_bind (wpAny_listPart .none ?_))))
  rw [if_neg (show ¬ ((rawPart none == rawInt 0) = true) from Bool.false_ne_true)]
  refine wpAny_bind (wpAny_field so1 so3 (x := vl) rfl (wpAny_bind (wpAny_listPart pl ?_)))
  refine wpAny_bind (wpAny_field so1 so3 (x := vu) rfl (wpAny_bind (wpAny_listPart pu (wpAny_pure ?_))))
  first
    | simp only [other, Bool.false_eq_true, if_false]
    | refine PySem.W.KFB.if_not other ?_
    | (dsimp only
       rw [if_neg (by rw [other]; exact Bool.false_ne_true)])
  refine wpAny_bind (m := Builtin.List.listAllItems (.ref b) "must assign iterable to extended slice") ?_
  unfold Builtin.List.listAllItems
  refine wpAny_bind (wpAny_typeOf Lb.typeIs ?_)
  first
    | refine PySem.W.KFB.if_so (by decide) ?_
    | rw [if_pos (by decide)]
    | simp only [beq_self_eq_true, Bool.true_or, if_true]
  unfold Builtin.List.listItems
  refine wpAny_bind (wpAny_seqItems e2 rfl (wpAny_pure ?_))
  refine wpAny_bind (wpAny_bind (wpAny_seqItems e rfl (wpAny_pure ?_)))
  refine wpAny_bind (wpAny_of_eq ((sliceIndices_raw (some (a : Int)) none none items.size (by simp)).trans (congrArg (pure : Int × Int × Int → Sem (Int × Int × Int)) (bounds_tail ha))) ?_)
  show wpAny _ _ (if ((1 : Int) == 1) = true then _ else _) _ _ s
  rw [if_pos (by decide)]
  refine wpAny_bind (wpAny_rule ?_)
  have short : Builtin.List.listTooLong (items.size + (#[] : Array Value).size) = false := notLongL hsz
  first
    | simp only [short, Bool.false_eq_true, if_false]
    | refine PySem.W.KFB.if_not short ?_
  first | refine wpAny_bind (wpAny_pure ?_) | skip
  show wpAny _ _ (updateSeq l (fun xs => xs.extract 0 ((a : Int)).toNat ++ #[] ++ xs.extract (max (a : Int) (items.size : Int)).toNat xs.size) >>= _) _ _ s
  rw [top, Int.toNat_natCast]
  refine wpAny_bind (wpAny_updateSeq (hz := hsz) (_hz' := fits) e rfl ?_)
  refine wpAny_bind (wpAny_letGo ?_)
  first
    | exact wpAny_bind (wpAny_pure (wpAny_pure ⟨.none, rfl, wpAny_pure h⟩))
    | exact wpAny_pure ⟨.none, rfl, wpAny_pure h⟩
end
section
variable {X : Cx} {o a : Expr} {to ti : TE} {pos p2 : Pos}
def rCut : TSet := fun o i v H Q => ∃ l b xs c, o = .ref l ∧ v = .ref b ∧ l ≠ b ∧ i = .int c ∧ H l = some (.lst xs) ∧ H b = some (.lst []) ∧ 0 ≤ c ∧ c ≤ (xs.length : Nat) ∧ Q (upd H l (.lst (xs.take c.toNat)))
theorem pg_cut (ho : PE X o to) (hi : PE X a ti)
    (ha : ∀ v, assign (.Subscript o (.Slice (some a) none none p2) pos) X.env v = (do
      let ov ← holding [v] (eval o X.env)
      let iv ← holding [v, ov] (eval (.Slice (some a) none none p2) X.env)
      standAt pos
      holding [v, ov, iv] (setItem ov iv v)
      release [iv, v, ov] []) := by intro _; rfl) : PG X (.Subscript o (.Slice (some a) none none p2) pos) (gSub to ti rCut) := by
  refine ⟨fun pins s σ H v u Q I r h => ?_⟩
  rw [ha]
  refine wpAny_bind (wpAny_holding (thn (ho.run pins s σ H _ I h) fun ov s1 ⟨x, H1, I1, r1, q1⟩ => ?_))
  refine wpAny_bind (wpAny_holding (wpAny_Slice (thn (hi.run pins s1 σ H1 _ I1 q1) fun iv s2 ⟨y, H2, I2, r2, q2⟩ => ?_)))
  rw [evalPart_none]
  refine wpAny_pure ?_
  refine wpAny_pure ?_
  obtain ⟨l, b, xs, c, rfl, rfl, hne, rfl, hl, hb, c0, c1, q⟩ := q2
  cases r1
  cases r
  obtain ⟨t, rfl⟩ := r2
  have I3 : Inv X pins σ H2 { s2 with heap := s2.heap.push { cls := .type "slice", data := .fields #[.int c t, .none, .none] } } := I2.kept (t' := s2.toks) fun b ob q => Heap.get?_push_of_some _ q
  obtain ⟨z1, its, n, ri, z2, e⟩ := I3.lstM hl
  obtain ⟨_, its2, n2, ri2, _, e2⟩ := I3.lstM hb
  cases ri2
  obtain ⟨a', rfl⟩ := Int.eq_ofNat_of_zero_le c0
  refine wpAny_bind (wpAny_standAt (wpAny_bind (wpAny_holding ?_)))
  refine set_tail e e2 hne (Heap.IsSliceOf.new ..) (.int _ _) .none (by rw [List.size_toArray]; omega) (by rw [List.size_toArray]; omega) ?_
  refine wpAny_release ⟨σ, _, ?_, q⟩
  refine I3.lset (its' := its.take a') (t' := s2.toks) hl e ?_ (ri.take _) ?_
  · have k : a' ≤ its.length := by omega
    apply Array.toList_inj.mp
    simp [List.take_of_length_le]
  · rw [List.length_take]
    omega
end
/-! the language -/
def cutI : PV → Option Int
  | .d (.int c) => some c
  | _ => none
theorem cutI_some {k : PV} {c : Int} (h : cutI k = some c) : k = .d (.int c) := by
  unfold cutI at h
  split at h
  · cases h; rfl
  · cases h
def cutO : Ob → Int → Option Ob
  | .lst ds, c => if 0 ≤ c ∧ c ≤ (ds.length : Nat) then some (.lst (ds.take c.toNat)) else none
  | _, _ => none
def mCut (i : Nat) (ix : ME) : MS := fun env => match sget env i with
  | some (.own _ _) => (ix env).bind fun k => (cutI k.1).bind fun c => match sget k.2 i with
    | some (.own b o) => (cutO o c).bind fun o' => some (.nx (sset k.2 i (some (.own b o'))))
    | _ => none
  | _ => none
theorem rs_cut {Z : Zn} {i : Nat} {ix : ME} {D : Ends} {σ : L2.St} {H : Hp} (h : tS Z (mCut i ix) D σ H) : tAsg (tLst tNil) (gSub (tVar i) (tI Z ix) rCut) D σ H := by
  obtain ⟨B, Hb, env, r, st, e, q⟩ := h
  unfold mCut at e
  cases h0 : sget env i with
  | none => rw [h0] at e; cases e
  | some sv =>
    rw [h0] at e
    cases sv with
    | d x => cases e
    | own b0 o0 =>
      simp only [Option.bind_eq_some_iff] at e
      obtain ⟨⟨k, e2⟩, hb, c, hc, e⟩ := e
      refine ⟨by decide, fun p0 hp => ?_⟩
      have n := Nx.newOwn (o := .lst []) st.sub hp
      have st1 := st.step n
      obtain ⟨p, q1, q2, q3, _⟩ := st.sl i _ h0
      refine ⟨_, q1, B, Hb, env, k, e2, st1, hb, fun kv Hb3 H3 g3 rk => ?_⟩
      have gg := ((Go.refl st).nx n).trans g3
      cases h4 : sget e2 i with
      | none => simp [h4] at e
      | some sv =>
        simp only [h4] at e
        cases sv with
        | d x => cases e
        | own b o =>
          simp only [Option.bind_eq_some_iff] at e
          obtain ⟨o', hf, e⟩ := e
          cases e
          obtain ⟨p', w1, w2, w3, w4⟩ := g3.st.sl i _ h4
          rw [q1] at w1
          cases w1
          have ne : p ≠ p0 := fun z => q3.some (z ▸ hp)
          have h3 : H3 p0 = some (.lst []) := g3.ny.kh p0 _ (fun ow => (Ow.some st ow).1 hp) upd_same
          have hk := cutI_some hc
          subst hk
          unfold cutO at hf
          split at hf
          · split at hf
            · rename_i hcc
              cases hf
              cases rk with
              | d a =>
                cases a
                cases w3 with
                | lst a1 a2 =>
                  have l := DpAll.length a2
                  exact ⟨p, p0, _, _, rfl, rfl, ne, rfl, a1, h3, hcc.1, by rw [l]; exact hcc.2, q σ Hb3 _ (gg.put st h4 q1 (.lst upd_same (DpAll.take _ a2))).st gg.ny.kb⟩
            · cases hf
          · cases hf
theorem iS_cut {X : Cx} {o b : Expr} {i : Nat} {mb : ME} {p p2 pos lp : Pos} (ho : PE X o (tVar i)) (hi : PE X b (tI (zn X) mb))
    (ha : ∀ v, assign (.Subscript o (.Slice (some b) none none p2) p) X.env v = (do
      let ov ← holding [v] (eval o X.env)
      let iv ← holding [v, ov] (eval (.Slice (some b) none none p2) X.env)
      standAt p
      holding [v, ov, iv] (setItem ov iv v)
      release [iv, v, ov] []) := by intro _; rfl) (hs : swapsWithSole [.Subscript o (.Slice (some b) none none p2) p] (.List [] lp) pos.line X.env = pure false := by rfl) (hw : swappedStores [.Subscript o (.Slice (some b) none none p2) p] (.List [] lp) X.env = pure none := by rfl) (h1 : (assignEach [.Subscript o (.Slice (some b) none none p2) p] X.env).map (·.2) = [assign (.Subscript o (.Slice (some b) none none p2) p) X.env] := by rfl) :
    PS X (.Assign [.Subscript o (.Slice (some b) none none p2) p] (.List [] lp) pos) (tS (zn X) (mCut i mb)) := ps_mono (ps_asg (pe_lst pa_nil) (pg_cut ho hi ha) hs hw h1) fun D σ H => rs_cut
theorem gCut {X : Cx} {st : Stmt} {Z : Zn} {i : Nat} {ix : ME} (h : PS X st (tS Z (mCut i ix))) : PS X st (tS Z (mCut i ix)) := h
end Ol
set_option Elab.async false
set_option linter.all false
set_option maxRecDepth 100000
set_option maxHeartbeats 4000000
/-! own: t = [a, b, c], asked, then a.append, b.clear, c[1].append through t -/
namespace Ol
open PySem PySem.Spec PyProof.Rows L2
def noOwn (env : Env) : Bool := env.all fun s => match s with
  | some (.own _ _) => false
  | _ => true
theorem noOwn_get : ∀ {env : Env} {i : Nat} {b : Bool} {o : Ob}, noOwn env = true → sget env i ≠ some (.own b o)
  | [], _, _, _, _ => by simp
  | x :: r, 0, b, o, h => by
    intro z
    have z : x = some (.own b o) := z
    subst z
    simp [noOwn] at h
  | x :: r, i + 1, b, o, h => by
    have h' : noOwn r = true := by
      simp only [noOwn, List.all_cons, Bool.and_eq_true] at h ⊢
      exact h.2
    exact noOwn_get (env := r) (i := i) h'
def toldD (xs ys : List D) (t : D) (zs : List D) : D := .list [.list xs, .list ys, .tuple [t, .list zs]]
def lstP : PV → Option (List D)
  | .new (.lst xs) => some xs
  | _ => none
def pairP : PV → Option (D × List D)
  | .tup [.d t, .new (.lst zs)] => some (t, zs)
  | _ => none
def mTold (i : Nat) (ma mb mc : ME) (mt : MT) : MS := fun env =>
  (ma env).bind fun x => (mb x.2).bind fun y => (mc y.2).bind fun z => (lstP x.1).bind fun xs => (lstP y.1).bind fun ys => (pairP z.1).bind fun tz =>
    if noOwn z.2 = true ∧ i < z.2.length ∧ xs.length < 100000 ∧ tz.2.length < 100000 then
      (store i (.d (toldD xs ys tz.1 tz.2)) z.2).bind fun e => (mt e).bind fun b => if b.1 = true then none else some (.nx (sset z.2 i none))
    else none
theorem lstP_some {x : PV} {xs : List D} (h : lstP x = some xs) : x = .new (.lst xs) := by
  unfold lstP at h
  split at h
  · cases h; rfl
  · cases h
theorem pairP_some {x : PV} {t : D} {zs : List D} (h : pairP x = some (t, zs)) : x = .tup [.d t, .new (.lst zs)] := by
  unfold pairP at h
  split at h
  · cases h; rfl
  · cases h
section
variable {Z : Zn} {B : Bs} {Hb H Hb1 H1 Hb' H' : Hp} {σ : L2.St} {env env' : Env} {v : V}
theorem vr_lst {xs : List D} (h : VR Z H Hb1 H1 σ v (.new (.lst xs))) : ∃ p us, v = .ref p ∧ H p = none ∧ Hb1 p = none ∧ H1 p = some (.lst us) ∧ DpAll Z.K Hb1 us xs := by
  cases h with
  | new a b c =>
    cases c with
    | lst d e => exact ⟨_, _, rfl, a, b, d, e⟩
theorem vr_pair {t : D} {zs : List D} (h : VR Z H Hb1 H1 σ v (.tup [.d t, .new (.lst zs)])) : ∃ a w p us, v = .ref a ∧ SqT Z.K Hb1 a [w, .ref p] ∧ Dp Z.K Hb1 w t ∧ H p = none ∧ Hb1 p = none ∧ H1 p = some (.lst us) ∧ DpAll Z.K Hb1 us zs := by
  cases h with
  | tup s r =>
    cases r with
    | d a r =>
      cases r with
      | new b c d e r =>
        cases r
        cases d with
        | lst f g => exact ⟨_, _, _, _, rfl, s, a, b, c, f, g⟩
end
def tTold (Z : Zn) (i : Nat) (ta tb tc : TE) (tt : TT) (u : TS) (n0 : Int) (z : Str) : TS :=
  tSeq (tAsg (tLst (tCons ta (tCons tb (tCons tc tNil)))) (gName i)) (tSeq (tIfS tt u tNext)
    (tSeq (tDrop (tBM Z.K "list" rAppend (tOp (rIx Z.K) (tVar i) (tC (.int 0))) (tCons (tC (.int n0)) tNil)))
      (tSeq (tDrop (tBM0 Z.K "list" rClear (tOp (rIx Z.K) (tVar i) (tC (.int 1)))))
        (tDrop (tBM Z.K "list" rAppend (tOp (rIx Z.K) (tOp (rIx Z.K) (tVar i) (tC (.int 2))) (tC (.int 1))) (tCons (tC (.str z)) tNil))))))
theorem rs_told {Z : Zn} {i : Nat} {ma mb mc : ME} {mt : MT} {u : TS} {n0 : Int} {z : Str} {D : Ends} {σ : L2.St} {H : Hp} (h : tS Z (mTold i ma mb mc mt) D σ H) : tTold Z i (tI Z ma) (tI Z mb) (tI Z mc) (tIT Z mt) u n0 z D σ H := by
  obtain ⟨B, Hb, env, r, st, e, q⟩ := h
  simp only [mTold, Option.bind_eq_some_iff] at e
  obtain ⟨⟨x, e1⟩, ha, ⟨y, e2⟩, hb, ⟨w, e3⟩, hc, xs, hx, ys, hy, ⟨t, zs⟩, hz, e⟩ := e
  have hx := lstP_some hx
  have hy := lstP_some hy
  have hz := pairP_some hz
  dsimp only at hx hy hz e ha hb hc
  subst hx hy hz
  split at e
  · rename_i hcond
    obtain ⟨no, li, lx, lz⟩ := hcond
    simp only [Option.bind_eq_some_iff] at e
    obtain ⟨e4, hs, ⟨b, e5⟩, ht, e⟩ := e
    cases b with
    | true => cases e
    | false =>
      cases e
      refine ⟨B, Hb, env, _, e1, st, ha, fun v1 Hb1 H1 g1 r1 => ⟨B, Hb1, e1, _, e2, g1.st, hb, fun v2 Hb2 H2 g2 r2 => ⟨B, Hb2, e2, _, e3, g2.st, hc, fun v3 Hb3 H3 g3 r3 => ⟨by simp only [List.length_cons, List.length_nil]; decide, fun p hp => ?_⟩⟩⟩⟩
      obtain ⟨p1, u1, rfl, a1, b1, c1, d1⟩ := vr_lst r1
      obtain ⟨p2, u2, rfl, a2, b2, c2, d2⟩ := vr_lst r2
      obtain ⟨pa, w, p3, u3, rfl, s3, dw, a3, b3, c3, d3⟩ := vr_pair r3
      have g12 := g1.trans g2
      have g13 := g12.trans g3
      have k12 := g2.ny.kh p1 _ (fun ow => own_some st p1 (g1.ow p1 ow) a1) c1
      have k13 := g3.ny.kh p1 _ (fun ow => own_some st p1 (g12.ow p1 ow) a1) k12
      have k23 := g3.ny.kh p2 _ (fun ow => own_some g1.st p2 (g2.ow p2 ow) a2) c2
      have b13 : Hb3 p1 = none := g3.ny.fr p1 (by rw [k12]; simp) (g2.ny.fr p1 (by rw [c1]; simp) b1)
      have b23 : Hb3 p2 = none := g3.ny.fr p2 (by rw [c2]; simp) b2
      have n2 : H p2 = none := g1.ny.back p2 a2
      have n3 : H p3 = none := g12.ny.back p3 a3
      have x12 : p1 ≠ p2 := fun z => by rw [z, a2] at c1; cases c1
      have x13 : p1 ≠ p3 := fun z => by rw [z, a3] at k12; cases k12
      have x23 : p2 ≠ p3 := fun z => by rw [z, a3] at c2; cases c2
      have y1 : p1 ≠ p := fun z => by rw [z, hp] at k13; cases k13
      have y2 : p2 ≠ p := fun z => by rw [z, hp] at k23; cases k23
      have y3 : p3 ≠ p := fun z => by rw [z, hp] at c3; cases c3
      have D1 := DpAll.ex (g2.ny.kb.trans g3.ny.kb) d1
      have D2 := DpAll.ex g3.ny.kb d2
      have bp : Hb3 p = none := g13.st.sub.free hp
      have nn := Nx.new (o := .lst [.ref p1, .ref p2, .ref pa]) g13.st.sub hp
      have g4 := g13.nx nn
      have m1 : upd Hb3 p (.lst [.ref p1, .ref p2, .ref pa]) p1 = none := by rw [upd_ne y1]; exact b13
      have m2 : upd (upd Hb3 p (.lst [.ref p1, .ref p2, .ref pa])) p1 (.lst u1) p2 = none := by rw [upd_ne x12.symm, upd_ne y2]; exact b23
      have m3 : upd (upd (upd Hb3 p (.lst [.ref p1, .ref p2, .ref pa])) p1 (.lst u1)) p2 (.lst u2) p3 = none := by rw [upd_ne x23.symm, upd_ne x13.symm, upd_ne y3]; exact b3
      have K1 : Ex Hb3 (upd (upd (upd (upd Hb3 p (.lst [.ref p1, .ref p2, .ref pa])) p1 (.lst u1)) p2 (.lst u2)) p3 (.lst u3)) := (((Ex.new bp).trans (Ex.new m1)).trans (Ex.new m2)).trans (Ex.new m3)
      have g5 := g4.know st (Hb2 := upd (upd (upd (upd Hb3 p (.lst [.ref p1, .ref p2, .ref pa])) p1 (.lst u1)) p2 (.lst u2)) p3 (.lst u3)) ⟨((Ex.new m1).trans (Ex.new m2)).trans (Ex.new m3),
        upd_ex (upd_ex (upd_ex g4.st.sub (by rw [upd_ne y1]; exact k13)) (by rw [upd_ne y2]; exact k23)) (by rw [upd_ne y3]; exact c3), fun a w1 w2 => by
          rw [upd_ne (fun z => w1 (by rw [z]; exact n3)), upd_ne (fun z => w1 (by rw [z]; exact n2)), upd_ne (fun z => w1 (by rw [z]; exact a1))]
          exact w2⟩
      generalize hF : upd (upd (upd (upd Hb3 p (.lst [.ref p1, .ref p2, .ref pa])) p1 (.lst u1)) p2 (.lst u2)) p3 (.lst u3) = HbF at g5 K1
      have f0 : HbF p = some (.lst [.ref p1, .ref p2, .ref pa]) := by rw [← hF, upd_ne y3.symm, upd_ne y2.symm, upd_ne y1.symm, upd_same]
      have f1 : HbF p1 = some (.lst u1) := by rw [← hF, upd_ne x13, upd_ne x12, upd_same]
      have f2 : HbF p2 = some (.lst u2) := by rw [← hF, upd_ne x23, upd_same]
      have f3 : HbF p3 = some (.lst u3) := by rw [← hF, upd_same]
      have told : Dp Z.K HbF (.ref p) (toldD xs ys t zs) := .lst (.inl (.of f0)) (.cons (.lst (.inl (.of f1)) (DpAll.ex K1 D1)) (.cons (.lst (.inl (.of f2)) (DpAll.ex K1 D2)) (.cons (.tup (sqt_ex K1 s3) (.cons (Dp.ex K1 dw) (.cons (.lst (.inl (.of f3)) (DpAll.ex K1 d3)) .nil)) (fun z => by simp [isS] at z)) .nil)))
      obtain ⟨st4, _⟩ := g5.st.store (v := .ref p) (fun x hx => by cases hx; exact told) (fun o ho => by cases ho) hs
      have hσ : (σ.set i (some (V.ref p)))[i]? = some (some (.ref p)) := List.getElem?_set_self (by rw [g13.st.len]; exact li)
      refine ⟨B, HbF, e4, false, e5, st4, ht, fun Hb5 H5 g6 => ?_⟩
      show (if false = true then _ else _)
      rw [if_neg (by decide)]
      have E := g6.ny.kb.trans g6.st.sub
      have t0 := E p _ f0
      have t1 := E p1 _ f1
      have t2 := E p2 _ f2
      have t3 := E p3 _ f3
      have s5 := sqt_ex (K1.trans E) s3
      refine ⟨_, hσ, .inl ⟨p, _, 0, .ref p1, rfl, rfl, .inl (.of t0), rfl, ?_⟩⟩
      refine ⟨.inl ⟨rfl, _, .inl (.of t1)⟩, p1, u1, .int n0, rfl, rfl, t1, ?_, ?_⟩
      · have := DpAll.length D1
        have hl : (100000 : Nat) ≤ sizeLine := by decide
        omega
      have r0 : upd H5 p1 (.lst (u1 ++ [.int n0])) p = some (.lst [.ref p1, .ref p2, .ref pa]) := by rw [upd_ne y1.symm]; exact t0
      have r2 : upd H5 p1 (.lst (u1 ++ [.int n0])) p2 = some (.lst u2) := by rw [upd_ne x12.symm]; exact t2
      refine ⟨_, hσ, .inl ⟨p, _, 1, .ref p2, rfl, rfl, .inl (.of r0), rfl, ?_⟩⟩
      refine ⟨.inl ⟨rfl, _, .inl (.of r2)⟩, p2, u2, rfl, rfl, r2, ?_⟩
      have q0 : upd (upd H5 p1 (.lst (u1 ++ [.int n0]))) p2 (.lst []) p = some (.lst [.ref p1, .ref p2, .ref pa]) := by rw [upd_ne y2.symm]; exact r0
      have q3 : upd (upd H5 p1 (.lst (u1 ++ [.int n0]))) p2 (.lst []) p3 = some (.lst u3) := by rw [upd_ne x23.symm, upd_ne x13.symm]; exact t3
      have KK : Ex Hb3 (upd (upd H5 p1 (.lst (u1 ++ [.int n0]))) p2 (.lst [])) := fun a o w => by
        have w1 : a ≠ p1 := fun z => by rw [z, b13] at w; cases w
        have w2 : a ≠ p2 := fun z => by rw [z, b23] at w; cases w
        rw [upd_ne w2, upd_ne w1]
        exact E _ _ (K1 _ _ w)
      refine ⟨_, hσ, .inl ⟨p, _, 2, .ref pa, rfl, rfl, .inl (.of q0), rfl, ?_⟩⟩
      refine .inr (.inl ⟨pa, _, 1, .ref p3, rfl, rfl, sqt_ex KK s3, rfl, ?_⟩)
      refine ⟨.inl ⟨rfl, _, .inl (.of q3)⟩, p3, u3, .str z, rfl, rfl, q3, ?_, ?_⟩
      · have := DpAll.length d3
        have hl : (100000 : Nat) ≤ sizeLine := by decide
        omega
      have B1 := st.ny.back p1 a1
      have B2 := st.ny.back p2 n2
      have B3 := st.ny.back p3 n3
      refine q _ Hb3 _ ⟨⟨g13.st.ny.kb, fun a o w => ?_, fun a o ns w => ?_, fun a w => ?_, g13.st.ny.fr⟩, fun j sv w => ?_, fun j k q b o b' o' w => ?_, ?_⟩ g13.ny.kb
      · have w3 : a ≠ p3 := fun z => by rw [z, b3] at w; cases w
        rw [upd_ne w3]
        exact KK _ _ w
      · have w1 : a ≠ p1 := fun z => by rw [z, B1] at w; cases w
        have w2 : a ≠ p2 := fun z => by rw [z, B2] at w; cases w
        have w3 : a ≠ p3 := fun z => by rw [z, B3] at w; cases w
        rw [upd_ne w3, upd_ne w2, upd_ne w1]
        exact g6.st.ny.kh a o ns w
      · have w1 : a ≠ p1 := fun z => w (by rw [z]; exact B1)
        have w2 : a ≠ p2 := fun z => w (by rw [z]; exact B2)
        have w3 : a ≠ p3 := fun z => w (by rw [z]; exact B3)
        rw [upd_ne w3, upd_ne w2, upd_ne w1]
        exact g6.st.ny.al a w
      · have hj : i ≠ j := fun z => by
          subst z
          have := sget_set_some w
          cases this
        rw [sget_set_ne hj] at w
        have z := g13.st.sl j sv w
        cases sv with
        | d x => obtain ⟨v, h1, h2⟩ := z; exact ⟨v, by rw [List.getElem?_set_ne hj]; exact h1, h2⟩
        | own b o => exact absurd w (noOwn_get no)
      · have hj : i ≠ j := fun z => by
          subst z
          have := sget_set_some w
          cases this
        rw [sget_set_ne hj] at w
        exact absurd w (noOwn_get no)
      · rw [List.length_set, sset_length]
        exact g13.st.len
  · cases e
section
variable {X : Cx} {x : Str} {i : Nat} {ea eb ec tst r : Expr} {ma mb mc : ME} {mt : MT} {u : TS} {n0 : Int} {z : Str}
  {px lp p1 rp p2 q1 q2 q3 q4 q5 q6 r1 r2 r3 r4 r5 t1 t2 t3 t4 t5 t6 t7 t8 t9 t10 t11 : Pos} {j1 j2 j3 j4 j5 j6 : Nat} {o0 o1 o2 o3 : Expr}
theorem iSs_told (hN : X.N.Nodup) (hi : X.N[i]? = some x) (hx : Loc X.env.scope x) (hv : Vis X.env.scope x) (ha : PE X ea (tI (zn X) ma)) (hb : PE X eb (tI (zn X) mb)) (hc : PE X ec (tI (zn X) mc)) (ht : PT X tst (tIT (zn X) mt)) {te : TE} (hr : PE X r te)
    (s1 : starEach [ea, eb, ec] X.env = (false, eval ea X.env) :: starEach [eb, ec] X.env := by rfl) (s2 : starEach [eb, ec] X.env = (false, eval eb X.env) :: starEach [ec] X.env := by rfl) (s3 : starEach [ec] X.env = (false, eval ec X.env) :: starEach [] X.env := by rfl)
    (w1 : swapsWith (.List [ea, eb, ec] lp) (some (.Name x px)) p1.line X.env = pure false := by rfl)
    (l1 : (q3.endLine == q5.line) = true := by rfl) (l2 : (r3.endLine == r4.line) = true := by rfl) (l3 : (t5.endLine == t7.line) = true := by rfl)
    (hd : (x == ("__debug__" : Str)) = false := by decide) (hcd : (x == ("__classdict__" : Str)) = false := by decide)
    (hf : X.fn x = true ∨ X.env.scope.names.lookup x = some .local := by first | exact .inl rfl | exact .inr rfl) :
    PSs X [.Assign [.Name x px] (.List [ea, eb, ec] lp) p1, .If tst [.Return (some r) rp] [] p2,
      .Expr (.Call (.Attribute (.Subscript (.Name x q1) (.Constant (.int 0) j1 q2) q4) "append" q3) [.Constant (.int n0) j2 t9] [] q5) q6,
      .Expr (.Call (.Attribute (.Subscript (.Name x r1) (.Constant (.int 1) j3 r2) t8) "clear" r3) [] [] r4) r5,
      .Expr (.Call (.Attribute (.Subscript (.Subscript (.Name x t1) (.Constant (.int 2) j4 t2) t3) (.Constant (.int 1) j5 t4) t6) "append" t5) [.Constant (.str z) j6 t10] [] t7) t11] (tS (zn X) (mTold i ma mb mc mt)) := by
  refine pss_mono (pss_cons (ps_set hN hi hx (pe_lst (pa_cons ha (pa_cons hb (pa_cons hc pa_nil s3) s2) s1)) w1 hf) (pss_cons (ps_if ht (pss_one (ps_ret hr)) pss_nil) (pss_cons (ps_expr (pe_bm PySem.F.plainAttrs_list PySem.F.slot_list_append PySem.F.type_list_append mt_append (pe_ix ix_seq (pe_var hi hv hd hcd) pe_int (by intro _ _; rfl)) (pa_cons pe_int pa_nil) rfl rfl l1))
    (pss_cons (ps_expr (pe_bm0 PySem.F.plainAttrs_list PySem.F.slot_list_clear PySem.F.type_list_clear mt_clear (pe_ix ix_seq (pe_var hi hv hd hcd) pe_int (by intro _ _; rfl)) rfl l2))
      (pss_one (ps_expr (pe_bm PySem.F.plainAttrs_list PySem.F.slot_list_append PySem.F.type_list_append mt_append (pe_ix ix_seq (pe_ix ix_seq (pe_var hi hv hd hcd) pe_int (by intro _ _; rfl)) pe_int (by intro _ _; rfl)) (pa_cons pe_str pa_nil) rfl rfl l3))))))) fun D σ H => rs_told
end
theorem gTold {X : Cx} {Z : Zn} {sts : List Stmt} {i : Nat} {ma mb mc : ME} {mt : MT} (h : PSs X sts (tS Z (mTold i ma mb mc mt))) : PSs X sts (tS Z (mTold i ma mb mc mt)) := h
/-! a called function's pair is handed on -/
def tupP : PV → Option (List PV)
  | .tup ys => some ys
  | _ => none
theorem tupP_some {x : PV} {ys : List PV} (h : tupP x = some ys) : x = .tup ys := by
  unfold tupP at h
  split at h
  · cases h; rfl
  · cases h
def mRetU (a : ME) : MS := fun env => (a env).bind fun x => (tupP x.1).bind fun ys => if okSlots ys = true then (backs x.2 ys).bind fun zs => some (.ret (.tup zs) x.2) else none
theorem rs_retU {Z : Zn} {a : ME} {D : Ends} {σ : L2.St} {H : Hp} (h : tS Z (mRetU a) D σ H) : tRet (tI Z a) D σ H := by
  obtain ⟨B, Hb, env, r, st, e, q⟩ := h
  simp only [mRetU, Option.bind_eq_some_iff] at e
  obtain ⟨⟨x, e1⟩, ha, ys, hy, e⟩ := e
  have hy := tupP_some hy
  dsimp only at hy e
  subst hy
  split at e
  · rename_i ok
    simp only [Option.bind_eq_some_iff] at e
    obtain ⟨zs, h1, h2⟩ := e
    cases h2
    refine ⟨B, Hb, env, _, e1, st, ha, fun v Hb' H' g1 rv => q v σ Hb' H' g1.st g1.ny.kb ?_⟩
    cases rv with
    | tup s r =>
      obtain ⟨ps', w, _⟩ := r.noσ g1.st (fun p hp => own_some st p (g1.ow p hp)) st.h0 ok h1
      exact .tup s w
  · cases e
theorem iS_retU {X : Cx} {a : Expr} {ma : ME} {pos : Pos} (he : PE X a (tI (zn X) ma)) : PS X (.Return (some a) pos) (tS (zn X) (mRetU ma)) := ps_mono (ps_ret he) fun D σ H => rs_retU
theorem gRetU {X : Cx} {Z : Zn} {st : Stmt} {ma : ME} (h : PS X st (tS Z (mRetU ma))) : PS X st (tS Z (mRetU ma)) := h
end Ol
set_option Elab.async false
set_option linter.all false
set_option maxRecDepth 100000
set_option maxHeartbeats 4000000
/-! own: a list comprehension over a list that a slot alone holds, looked at anew at each turn -/
namespace Ol
open PySem PySem.Spec PyProof.Rows L2
def compO (own : List Nat) (j : Nat) (g : MG) (c : MT) (elt : ME) : Nat → Nat → Env → List D → Option (List D × Env)
  | 0, _, _, _ => none
  | n + 1, i, e, acc => match sget e j with
    | some (.own _ (.lst ds)) => match ds[i]? with
      | none => some (acc, e)
      | some x => (g (.d x) e).bind fun e1 => (c e1).bind fun b => if b.1 = true then (elt b.2).bind fun y => (fz y.1).bind fun d => if acc.length < 100000 then compO own j g c elt n (i + 1) (wipeE y.2 own) (acc ++ [d]) else none else compO own j g c elt n (i + 1) (wipeE b.2 own) acc
    | _ => none
def mCompP (own : List Nat) (j : Nat) (g : MG) (c : MT) (elt : ME) : ME := fun env => match sget env j with
  | some (.own _ (.lst ds)) => (compO own j g c elt (ds.length + 1) 0 (wipeE env own) []).bind fun z => some (.new (.lst z.1), restE env z.2 own)
  | _ => none
section
variable {Z : Zn} {B : Bs} {Hb H Hb1 H1 Hb2 Hb' H' H0 : Hp} {σ : L2.St} {env env1 env' : Env} {p : Addr} {o : Ob} {v : V} {pv : PV} {i : Nat}
/-- a slot's list at its place -/
theorem own_at {bb : Bool} {ds : List D} {a : Addr} (st : Sta Z B Hb H σ env) (h : sget env i = some (.own bb (.lst ds))) (e : σ[i]? = some (some (.ref a))) : ∃ xs, H a = some (.lst xs) ∧ DpAll Z.K Hb xs ds := by
  obtain ⟨p, q1, q2, q3, q4⟩ := st.sl i _ h
  rw [e] at q1
  cases q1
  cases q3 with
  | lst h1 h2 => exact ⟨_, h1, h2⟩
theorem re_compO {own : List Nat} {j : Nat} {g : MG} {is : List Nat} {c : MT} {elt : ME} {Q : VK} (hi : ∀ i ∈ is, i ∈ own) (h : tI Z (mCompP own j g c elt) σ H Q) : tLc (iList Z.K (tVar j)) (tG Z is g) (tIT Z c) (tI Z elt) own σ H Q := by
  obtain ⟨B, Hb, env, pv, env', st, e, q⟩ := h
  unfold mCompP at e
  split at e
  case h_2 => cases e
  rename_i s0 b0 ds0 hs0
  simp only [Option.bind_eq_some_iff] at e
  obtain ⟨⟨res, ez⟩, h2, h3⟩ := e
  cases h3
  obtain ⟨a, qa, q2, q3, q4⟩ := st.sl j _ hs0
  have hx0 : ∃ xs, H a = some (.lst xs) ∧ DpAll Z.K Hb xs ds0 := own_at st hs0 qa
  obtain ⟨xs0, hx0, hd0⟩ := hx0
  refine ⟨.ref a, qa, a, rfl, ⟨xs0, .inl (.of hx0)⟩, fun D hD => ?_⟩
  have g1 : Go Z B σ env Hb H env Hb H := .refl st
  have stW := g1.st.wipe own
  have hDb : Hb D = none := g1.st.sub.free hD
  have hD0 : B.H0 D = none := g1.st.h0 D hD
  have nOw : ¬ Ow (wipeE env own) (L2.wipe σ own) D := fun z => own_some stW D z hD
  refine ⟨fun i m H2 => ∃ Hb2 env2 acc xs, Go Z B (L2.wipe σ own) (wipeE env own) Hb H env2 Hb2 H2 ∧ H2 D = some (.lst xs) ∧ Hb2 D = none ∧ DpAll Z.K Hb2 xs acc ∧ compO own j g c elt m i env2 acc = some (res, ez),
    ⟨_, Hb, wipeE env own, [], [], ⟨(Ny.refl g1.st.sub).upd hD hDb, stW.updN hD0 hDb nOw, fun _ z => z⟩, upd_same, hDb, .nil, h2⟩, ?_⟩
  rintro i m H2 ⟨Hb2, env2, acc, xs, s2, c1, c2, c3, hf⟩
  cases m with
  | zero => cases hf
  | succ m =>
  unfold compO at hf
  split at hf
  case h_2 => cases hf
  rename_i s1 b1 ds hs1
  have hj : (L2.wipe σ own)[j]? = some (some (.ref a)) := by
    have := wipeE_some (e := env) (vs := own) (i := j) (sv := .own b0 (.lst ds0))
    by_cases hm : j ∈ own
    · obtain ⟨p', z1, _⟩ := s2.st.sl j _ hs1
      rw [wipe_at hm] at z1
      split at z1 <;> cases z1
    · rw [wipe_out hm]; exact qa
  obtain ⟨us, hu, hud⟩ := own_at s2.st hs1 hj
  have hul := DpAll.length hud
  split at hf
  · rename_i hn
    cases hf
    refine .inl ⟨⟨us, .inl (.of hu), ?_⟩, q (.ref D) Hb2 H2 (s2.rest st) (.new hD c2 (.lst c1 c3))⟩
    rw [hul]
    exact List.getElem?_eq_none_iff.mp hn
  · rename_i d hd
    obtain ⟨x, hx, hdx⟩ := DpAll.get hud hd
    refine .inr ⟨⟨us, x, .inl (.of hu), hx⟩, fun H' => ∃ Hb2 env2 acc xs, Go Z B (L2.wipe σ own) (wipeE env own) Hb H env2 Hb2 H' ∧ H' D = some (.lst xs) ∧ Hb2 D = none ∧ DpAll Z.K Hb2 xs acc ∧ compO own j g c elt m (i + 1) env2 acc = some (res, ez),
      fun H' w => ⟨m, Nat.lt_succ_self m, w⟩, fun x' H3 y => ?_⟩
    obtain ⟨e3', y⟩ := y
    subst e3'
    have ex : x' = x := by
      have := y us (.inl (.of hu))
      rw [hx] at this
      exact (Option.some.inj this).symm
    subst ex
    have hx := hdx
    simp only [Option.bind_eq_some_iff] at hf
    obtain ⟨e3, h3, ⟨b, e4⟩, h4, h5⟩ := hf
    have n : Nx Hb2 H3 Hb2 H3 := .refl s2.st.sub
    have s3 := s2
    have d3 : H3 D = some (.lst xs) := c1
    have nb3 : Hb2 D = none := c2
    have nOw2 : ∀ p, Ow env2 (L2.wipe σ own) p → p ≠ D := fun p hp z => nOw (z ▸ s2.ow p hp)
    refine ⟨B, Hb2, H3, env2, .d d, e3, s3.st, own_some s3.st, s3.st.h0, .d hx, h3, fun σ' s4 hwp how => ?_⟩
    have hw := hwp own hi
    rw [wipe_wipe] at hw
    refine ⟨hw, B, Hb2, e3, b, e4, s4, h4, fun Hb5 H5 g5 => ?_⟩
    have ow4 : ∀ p, Ow e3 σ' p → p ≠ D := fun p hp z => by
      rcases how p hp with w | w
      · exact nOw2 p w z
      · rw [z, d3] at w; cases w
    have d5 : H5 D = some (.lst xs) := g5.ny.kh D _ (fun z => ow4 D z rfl) d3
    have nb5 : Hb5 D = none := g5.ny.fr D (by rw [d3]; simp) nb3
    have close : ∀ {Hb6 H6 : Hp} {e6 : Env}, Go Z B σ' e3 Hb2 H3 e6 Hb6 H6 → Go Z B (L2.wipe σ own) (wipeE env own) Hb H (wipeE e6 own) Hb6 H6 := fun {Hb6 H6 e6} g6 => by
      have k : ∀ p, Ow (wipeE e6 own) (L2.wipe σ own) p → Ow env2 (L2.wipe σ own) p := fun p ⟨j, bb, oo, z1, z2⟩ => by
        obtain ⟨z3, z4⟩ := wipeE_some z1
        have z5 : σ'[j]? = some (some (.ref p)) := by
          rw [wipe_out z4] at z2
          have z6 : (L2.wipe σ' own)[j]? = (L2.wipe σ own)[j]? := by rw [hw]
          rw [wipe_out z4, wipe_out z4] at z6
          rw [z6]
          exact z2
        have z7 := g6.ow p ⟨j, bb, oo, z3, z5⟩
        rcases how p z7 with w | w
        · exact w
        · exact absurd w (own_some s4 p z7)
      refine ⟨?_, ?_, fun p hp => s3.ow p (k p hp)⟩
      · have t : Ny (Ow (wipeE env own) (L2.wipe σ own)) Hb2 H3 Hb6 H6 := g6.ny.mono fun p hp => by
          rcases how p hp with w | w
          · exact s3.ow p w
          · exact absurd w (own_some s4 p hp)
        exact s3.ny.trans t
      · have z := g6.st.wipe own
        rw [hw] at z
        exact z
    cases b with
    | false =>
      simp only [Bool.false_eq_true, if_false] at h5 ⊢
      exact ⟨Hb5, _, acc, xs, close g5, d5, nb5, DpAll.ex g5.ny.kb c3, h5⟩
    | true =>
      simp only [if_true, Option.bind_eq_some_iff] at h5 ⊢
      obtain ⟨⟨y0, e5⟩, h6, d', h7, h8⟩ := h5
      refine ⟨B, Hb5, e4, y0, e5, g5.st, h6, fun v Hb6 H6 g6 rv => ?_⟩
      split at h8
      · rename_i hz
        have ow5 : ∀ p, Ow e4 σ' p → p ≠ D := fun p hp => ow4 p (g5.ow p hp)
        have d6 : H6 D = some (.lst xs) := g6.ny.kh D _ (fun z => ow5 D z rfl) d5
        have nb6 : Hb6 D = none := g6.ny.fr D (by rw [d5]; simp) nb5
        have hxs : xs.length = acc.length := DpAll.length c3
        refine ⟨xs, d6, Nat.lt_of_lt_of_le (by rw [hxs]; exact hz) (by decide), ?_⟩
        obtain ⟨Hb7, kn, kz, dv⟩ : ∃ Hb7, Kn H5 Hb6 H6 Hb7 ∧ Hb7 D = none ∧ Dp Z.K Hb7 v d' := by
          cases rv with
          | d a => cases h7; exact ⟨Hb6, ⟨.rfl, g6.st.sub, fun _ _ z => z⟩, nb6, a⟩
          | new a b1 c =>
            rename_i p o
            cases c with
            | lst y1 y2 =>
              cases h7
              refine ⟨_, ⟨Ex.new b1, upd_ex g6.st.sub y1, fun y w1 w2 => ?_⟩, ?_, .lst (.inl (.of upd_same)) (DpAll.ex (Ex.new b1) y2)⟩
              · rw [upd_ne (fun w => w1 (by rw [w]; exact a))]; exact w2
              · rw [upd_ne (fun w => by rw [← w, d5] at a; cases a)]; exact nb6
            | set _ => cases h7
            | dic _ _ _ => cases h7
            | dit _ _ => cases h7
          | slot a => cases h7
          | tup a t => cases h7
        have g7 := (g5.trans g6).know s4 (Hb2 := Hb7) ⟨kn.kb, kn.sub, fun a w1 w2 => kn.fr a (g5.ny.al a w1) w2⟩
        have g8 := close g7
        refine ⟨Hb7, _, acc ++ [d'], xs ++ [v], ⟨g8.ny.upd hD kz, g8.st.updN hD0 kz fun z => nOw (g8.ow D z), g8.ow⟩, upd_same, kz, DpAll.append (DpAll.ex ((g5.ny.kb.trans g6.ny.kb).trans kn.kb) c3) (.cons dv .nil), h8⟩
      · cases h8
end
def mCompO (own : List (Str × Nat)) (j : Nat) (g : MG) (c : MT) (elt : ME) : ME := mCompP (own.map (·.2)) j g c elt
section
variable {X : Cx} {x : Str} {i j : Nat} {e elt : Expr} {g : MG} {is : List Nat} {tg iter : Expr} {ifs : List Expr} {scope : Scope} {own : List (Str × Nat)} {mt : MT} {ma : ME} {pos py : Pos}
theorem iE_lcO (hc : X.calm = true) (hN : X.N.Nodup) (hi : PE X iter (tVar j)) (ok : BlkOk X.N X.env.scope scope own)
    (hg : ∀ (s : Shared) (H : Hp) (C : Addr) (cl : List (Str × Addr)) (fp : List Addr), PG (X.blk s H scope (compEnvC scope cl C X.env) fp) tg (tG (zn X) is g)) (ht : ∀ (s : Shared) (H : Hp) (C : Addr) (cl : List (Str × Addr)) (fp : List Addr), PTs (X.blk s H scope (compEnvC scope cl C X.env) fp) ifs (tIT (zn X) mt))
    (he : ∀ (s : Shared) (H : Hp) (C : Addr) (cl : List (Str × Addr)) (fp : List Addr), PE (X.blk s H scope (compEnvC scope cl C X.env) fp) elt (tI (zn X) ma)) (his : ∀ i ∈ is, i ∈ own.map (·.2)) (hs : ∀ x, foldedSetIterable iter X.env x = pure x := by intro _; rfl) :
    PE X (.ListComp elt [⟨tg, iter, ifs, 0⟩] scope pos) (tI (zn X) (mCompO own j g mt ma)) := pe_mono (pe_lc hc hN (pi_list hi) ok hg ht he hs) fun σ H Q => re_compO his
theorem iS_setLcO {spos : Pos} (hc : X.calm = true) (hN : X.N.Nodup) (hy : X.N[i]? = some x) (hyl : X.env.scope.names.lookup x = some .local)
    (hsw : swapsWith (.ListComp elt [⟨tg, iter, ifs, 0⟩] scope pos) (some (.Name x py)) spos.line X.env = pure true) (hi : PE X iter (tVar j)) (ok : BlkOk X.N X.env.scope scope own)
    (hg : ∀ (s : Shared) (H : Hp) (C : Addr) (cl : List (Str × Addr)) (fp : List Addr), PG (X.blk s H scope (compEnvC scope cl C X.env) fp) tg (tG (zn X) is g)) (ht : ∀ (s : Shared) (H : Hp) (C : Addr) (cl : List (Str × Addr)) (fp : List Addr), PTs (X.blk s H scope (compEnvC scope cl C X.env) fp) ifs (tIT (zn X) mt))
    (he : ∀ (s : Shared) (H : Hp) (C : Addr) (cl : List (Str × Addr)) (fp : List Addr), PE (X.blk s H scope (compEnvC scope cl C X.env) fp) elt (tI (zn X) ma)) (his : ∀ i ∈ is, i ∈ own.map (·.2)) (hs : ∀ x, foldedSetIterable iter X.env x = pure x := by intro _; rfl) :
    PS X (.Assign [.Name x py] (.ListComp elt [⟨tg, iter, ifs, 0⟩] scope pos) spos) (tS (zn X) (mAsg (store i) (mCompO own j g mt ma))) := ps_mono (ps_setLc hc hN hy hyl hsw (pi_list hi) ok hg ht he hs) fun D σ H h => re_compO his (tI_mono (rs_asg (is := [i]) h) fun v H' => rg_name)
variable {Z : Zn} {st : Stmt}
theorem gLcO (h : PE X e (tI Z (mCompO own j g mt ma))) : PE X e (tI Z (mCompO own j g mt ma)) := h
theorem gSetO (h : PS X st (tS Z (mAsg (store i) (mCompO own j g mt ma)))) : PS X st (tS Z (mAsg (store i) (mCompO own j g mt ma))) := h
end
end Ol
set_option Elab.async false
set_option linter.all false
set_option maxRecDepth 100000
set_option maxHeartbeats 4000000
namespace Ol
open PySem PySem.Spec PyProof.Rows L2
def top (i : Nat) : Stmt := PySem.Challenge.pw_openlane_k01_sizes_numbers_replay.main.body.getD i (.Pass ⟨0, 0, 0, 0⟩)
def dd (n : Str) (i : Nat) : He.DefD := ⟨(n, none), n, n, defArgs (top i), defBody (top i), defScope (top i), [], []⟩
def fn : List He.DefD := [dd "is_car" 12, dd "is_lane" 13, dd "is_side" 14, dd "is_arrival" 15, dd "is_departure" 16, dd "check_lane" 17, dd "is_log_for" 18, dd "check_log" 19, dd "count_sizes" 20, dd "sizes" 21, dd "car_numbers" 22, dd "numbers" 23, dd "replayed" 24, dd "replay" 25, dd "_law_source" 27, dd "_law_draw" 28, dd "_law_mixed" 29, dd "_law_vehicles" 30, dd "_law_happened" 31, dd "_law_rows" 32, dd "_law_right" 33, dd "law" 34]
def fa : List He.Fa := [.glo "is_car", .glo "is_lane", .glo "is_side", .glo "is_arrival", .glo "is_departure", .glo "check_lane", .glo "is_log_for", .glo "check_log", .glo "count_sizes", .glo "sizes", .glo "car_numbers", .glo "numbers", .glo "replayed", .glo "replay", .glo "_law_source", .glo "_law_draw", .glo "_law_mixed", .glo "_law_vehicles", .glo "_law_happened", .glo "_law_rows", .glo "_law_right", .glo "law", .free "len", .free "int", .free "abs", .free "max", .free "min", .free "list", .free "tuple", .free "set", .free "all", .free "any", .free "sum", .free "sorted", .free "isinstance", .free "range", .free "enumerate", .free "zip", .free "str", .free "bool", .free "dict", .free "repr", .str "LETTERS" "abcdefghijklmnopqrstuvwxyz", .int "MAX_LETTERS" 4, .str "LEFT" "L", .str "RIGHT" "R", .str "IN" "in", .str "OUT" "out"]
def loose : List Str := (["LaneError", "InvalidLane", "InvalidLog", "InvalidSides", "LETTERS", "MAX_LETTERS", "LEFT", "RIGHT", "IN", "OUT", "is_car", "is_lane", "is_side", "is_arrival", "is_departure", "check_lane", "is_log_for", "check_log", "count_sizes", "sizes", "car_numbers", "numbers", "replayed", "replay", "_law_source", "_law_draw", "_law_mixed", "_law_vehicles", "_law_happened", "_law_rows"] : List Str) ++ (["_law_right"] : List Str)
abbrev R : PySem.W.OpenRow := PySem.W.OpenLaw.row PySem.Challenge.rw_openlane_k01_sizes_numbers_replay
abbrev hk : PySem.W.Hook := He.hookD 4 fa fn
def ob (s : PySem.W.SharedT) : He.AlD := He.obsDG 4 fa fn (HandSHeadRun.getT s)
theorem ob_eq (s : PySem.W.SharedT) : ob s = hk.obs s.abs := He.obsDG_eq (HandSHeadRun.getT_eq s)
theorem hrun (w : World) : HandSHeadRun.RunEq R (PySem.W.view R.prog [34]) hk ob 8000 loose w := by
  intro os
  kernel_rfl
end Ol
set_option Elab.async false
set_option linter.all false
set_option maxRecDepth 100000
set_option maxHeartbeats 4000000
namespace Ol
open PySem PySem.Spec PyProof.Rows L2 PySem.W PySem.Calls
theorem j01_fin (F : ∀ (w : World) (mg : Str → Option Value) (f : Addr) (h : Heap), (∃ K : PySem.W.Frag, K.In h ∧ He.SaysD fa fn K) → h.Ns mainGlobals mg → mg ("law" : Str) = some (.ref f) →
      ∃ (K : PySem.W.Frag) (fd : FuncData) (sp : Sp), K.In h ∧ (∀ (s : Shared) (u : Value), BindsTo s fd ⟨[u], []⟩ [("script", u)]) ∧
        (∀ (H : Hp) (a : Addr) (ns : List Int), ns.length ≤ 63 → Only H → SqL K H a (ns.map V.int) → sp [.ref a] H (fun v _ => v = .bl true) fun _ _ _ => False) ∧
        ∀ base : Heap, K.In base → base.Ns mainGlobals mg → FnG (PySem.Challenge.rw_openlane_k01_sizes_numbers_replay).prog w K mg base L2.CX0 20 f fd ["script"] sp) : PySem.Challenge.rw_openlane_k01_sizes_numbers_replay.Holds := by
  w_on; o_law
  refine HandSHeadRun.head_any (r := OpenLaw.row PySem.Challenge.rw_openlane_k01_sizes_numbers_replay) (q := view (OpenLaw.row PySem.Challenge.rw_openlane_k01_sizes_numbers_replay).prog [34]) (H := Ol.hk) (ob := Ol.ob) (M := 8000) (loose := Ol.loose) (d := HandSHeadRun.topDef (OpenLaw.row PySem.Challenge.rw_openlane_k01_sizes_numbers_replay).prog 34) (kwd := []) Ol.ob_eq
    (by kernel_rfl) (fun s => by kernel_rfl) Ol.hrun (by kernel_rfl) (by kernel_rfl) (by kernel_rfl) (by rfl) (by first | assumption | decide +kernel) (by decide +kernel) ⟨rfl, rfl, rfl, rfl, rfl, by decide +kernel⟩ ?hw ?hc
  case hw => w_witness2
  case hc =>
    refine walk_ofG (l := PySem.Challenge.rw_openlane_k01_sizes_numbers_replay) (n := 63) (k := 20) (x := "script") (CX := L2.CX0) rfl (by decide) (by kernel_rfl) ⟨rfl, by decide, by decide⟩ ?F (fun _ _ _ _ z => z)
    intro w mg f h Y G hm
    obtain ⟨K, KX, c⟩ := Y
    have e : (HandSHeadRun.topDef (OpenLaw.row PySem.Challenge.rw_openlane_k01_sizes_numbers_replay).prog 34).name = ("law" : PySem.Str) := by kernel_rfl
    rw [e] at hm
    exact F w mg f h ⟨K, KX, c⟩ G hm
end Ol
set_option Elab.async false
set_option linter.all false
set_option maxRecDepth 100000
set_option maxHeartbeats 4000000
open PySem PySem.Spec PyProof.Rows L2
namespace Ol
local macro_rules | `(tactic| walk_at "I.S") => `(tactic| repeat' (first
  | ((with_reducible apply cE); (first
    | (with_reducible refine iE_one ?_)
    | ((with_reducible apply gVar); exact iE_var rfl (by first | exact .inl rfl | exact .inr (.inl rfl) | exact .inr (.inr rfl)))
    | ((with_reducible apply gC); (first | exact iE_int | exact iE_str | exact iE_non | exact iE_bl | exact iE_gs rfl (by assumption) | exact iE_gi rfl (by assumption)))
    | ((with_reducible apply cM2); (first
      | ((with_reducible apply gM2 oIx); refine iE_ix ?_ ?_)
      | ((with_reducible apply gM2 oDg); refine iE_dg (Room.units (by assumption)) ?_ ?_)
      | (with_reducible refine iE_add ?_ ?_)
      | (with_reducible refine iE_sub ?_ ?_)
      | (with_reducible refine iE_mul ?_ ?_)
      | (with_reducible refine iE_div ?_ ?_)
      | (with_reducible refine iE_mod ?_ ?_)
      | (with_reducible refine iE_pow ?_ ?_)
      | ((with_reducible apply gM2 oEq); refine iE_cmp (op_eqD (Room.units (by assumption))) s_eq ?_ ?_ (by rfl))
      | ((with_reducible apply gM2 oNe); refine iE_cmp (op_neD (Room.units (by assumption))) s_ne ?_ ?_ (by rfl))
      | ((with_reducible apply gM2 oLt); refine iE_cmp op_lt s_lt ?_ ?_ (by rfl))
      | ((with_reducible apply gM2 oLe); refine iE_cmp op_le s_le ?_ ?_ (by rfl))
      | ((with_reducible apply gM2 oGt); refine iE_cmp op_gt s_gt ?_ ?_ (by rfl))
      | ((with_reducible apply gM2 oGe); refine iE_cmp op_ge s_ge ?_ ?_ (by rfl))
      | ((with_reducible apply gM2 (oIn false)); refine iE_cmp (op_inU (Room.units (by assumption))) (s_in false) ?_ ?_ (by rfl))
      | ((with_reducible apply gM2 (oIn true)); refine iE_cmp (op_notInU (Room.units (by assumption))) (s_in true) ?_ ?_ (by rfl))
      | ((with_reducible apply gM2 oIsN); refine iE_cmp op_isN s_isN ?_ ?_ (by rfl))
      | ((with_reducible apply gM2 oNotN); refine iE_cmp op_notN s_notN ?_ ?_ (by rfl))
      | ((with_reducible apply gM2 oIsB); refine iE_cmp op_isB s_isB ?_ ?_ (by rfl))
      | ((with_reducible apply gM2 oNotB); refine iE_cmp op_notB s_notB ?_ ?_ (by rfl))
      | ((with_reducible apply gM2 (oInT false)); refine iE_cmp (or_inT (room3 (by assumption))) (s_inT false) ?_ ?_ (by rfl))
      | ((with_reducible apply gM2 (oInT true)); refine iE_cmp (or_notInT (room3 (by assumption))) (s_inT true) ?_ ?_ (by rfl))
      | ((with_reducible apply gM2 (oTxIn false)); refine iE_cmp (op_txIn (Room.units (by assumption))) (s_txIn false) ?_ ?_ (by rfl))
      | ((with_reducible apply gM2 oEqS); refine iE_cmp op_eq s_eqS ?_ ?_ (by rfl))
      | ((with_reducible apply gM2 oNeS); refine iE_cmp op_ne s_neS ?_ ?_ (by rfl))
      | fail))
    | ((with_reducible apply cB); (first
      | ((with_reducible apply gB oLen); refine iE_B cr_lenU s_len rfl (Gb.len (by assumption)) (by rfl) ?_)
      | ((with_reducible apply gB oAll); refine iE_B (cr_all rfl) s_all rfl (Gb.all (by assumption)) (by rfl) ?_)
      | ((with_reducible apply gB oAny); refine iE_B (cr_any rfl) s_any rfl (Gb.any (by assumption)) (by rfl) ?_)
      | ((with_reducible apply gB oSum); refine iE_B (cr_sum rfl) s_sum rfl (Gb.sum (by assumption)) (by rfl) ?_)
      | ((with_reducible apply gB oMin); refine iE_B (cr_minU rfl (Room.units (by assumption))) s_min rfl (Gb.min (by assumption)) (by rfl) ?_)
      | ((with_reducible apply gB oMinL); refine iE_B (cr_minL rfl (Room.units (by assumption))) s_minL rfl (Gb.min (by assumption)) (by rfl) ?_)
      | ((with_reducible apply gB oMax); refine iE_B (cr_maxU rfl (Room.units (by assumption))) s_max rfl (Gb.max (by assumption)) (by rfl) ?_)
      | ((with_reducible apply gB oAbs); refine iE_B call_abs s_abs rfl (Gb.abs (by assumption)) (by rfl) ?_)
      | ((with_reducible apply gB oInt); refine iE_Ty call_int1 s_int rfl (Gb.int (by assumption)) (by rfl) ?_)
      | ((with_reducible apply gB oList); refine iE_Ty call_list_of s_list rfl (Gb.list (by assumption)) (by rfl) ?_)
      | ((with_reducible apply gB oTuple); refine iE_Ty call_tupleN s_tuple rfl (Gb.tuple (by assumption)) (by rfl) ?_)
      | ((with_reducible apply gB oSet); refine iE_Ty (cr_setK rfl) s_set rfl (Gb.set (by assumption)) (by rfl) ?_)
      | ((with_reducible apply gB oListT); refine iE_Ty (call_listDt rfl) s_listT rfl (Gb.list (by assumption)) (by rfl) ?_)
      | ((with_reducible apply gB oLZ); refine iE_lz rfl rfl (Gb.list (by assumption)) rfl (Gb.zip (by assumption)) (by rfl) ?_)
      | ((with_reducible apply gB oListM); refine iE_Ty (call_listD rfl) s_listM rfl (Gb.list (by assumption)) (by rfl) ?_)
      | ((with_reducible apply gB oDictT); refine iE_Ty (call_dictDt (room4 (by assumption)) rfl) s_dictT rfl (Gb.dict (by assumption)) (by rfl) ?_)
      | ((with_reducible apply gB oDictP); refine iE_Ty (call_dictP rfl) s_dictP rfl (Gb.dict (by assumption)) (by rfl) ?_)
      | ((with_reducible apply gB oRepr); refine iE_B (cr_repr (by assumption) (Room.units (by assumption))) s_repr rfl (Gb.repr (by assumption)) (by rfl) ?_)
      | ((with_reducible apply gB oReprJ); refine iE_B (cr_reprJ (by assumption) (Room.units (by assumption))) s_reprJ rfl (Gb.repr (by assumption)) (by rfl) ?_)
      | ((with_reducible apply gB oSortL); refine iE_B cr_sortedI s_sortL rfl (Gb.sorted (by assumption)) (by rfl) ?_)
      | ((with_reducible apply gB oSortS); refine iE_B cr_sortT s_sortS rfl (Gb.sorted (by assumption)) (by rfl) ?_)
      | ((with_reducible apply gB oSet0); exact iE_Ty0 cr_set0K s_set0 rfl (Gb.set (by assumption)) (by rfl))
      | fail))
    | ((with_reducible apply cCh); (first
      | ((with_reducible apply gCh oLe oLe); refine iE_chain op_le s_le op_le s_le ?_ ?_ ?_)
      | ((with_reducible apply gCh oLe oLt); refine iE_chain op_le s_le op_lt s_lt ?_ ?_ ?_)
      | ((with_reducible apply gCh oLt oLe); refine iE_chain op_lt s_lt op_le s_le ?_ ?_ ?_)
      | ((with_reducible apply gCh oLt oLt); refine iE_chain op_lt s_lt op_lt s_lt ?_ ?_ ?_)
      | ((with_reducible apply gCh oLt oGt); refine iE_chain op_lt s_lt op_gt s_gt ?_ ?_ ?_)
      | fail))
    | ((with_reducible apply cMt); (first
      | ((with_reducible apply gMt fAppend); refine iE_append (pe_var rfl (by first | exact .inl rfl | exact .inr (.inl rfl) | exact .inr (.inr rfl))) ?_)
      | ((with_reducible apply gMt fPopAt); refine iE_popAt (pe_var rfl (by first | exact .inl rfl | exact .inr (.inl rfl) | exact .inr (.inr rfl))) ?_)
      | ((with_reducible apply gMt fInsert); refine iE_insert (pe_var rfl (by first | exact .inl rfl | exact .inr (.inl rfl) | exact .inr (.inr rfl))) ?_)
      | ((with_reducible apply gMt fAdd); refine iE_sadd (pe_var rfl (by first | exact .inl rfl | exact .inr (.inl rfl) | exact .inr (.inr rfl))) ?_)
      | ((with_reducible apply gMt fPop); exact iE_pop (pe_var rfl (by first | exact .inl rfl | exact .inr (.inl rfl) | exact .inr (.inr rfl))))
      | ((with_reducible apply gMt fClear); exact iE_clear (pe_var rfl (by first | exact .inl rfl | exact .inr (.inl rfl) | exact .inr (.inr rfl))))
      | fail))
    | (with_reducible refine iE_neg ?_)
    | (with_reducible refine iE_and ?_ ?_)
    | (with_reducible refine iE_or ?_ ?_)
    | (with_reducible refine iE_not ?_)
    | (with_reducible refine iE_if ?_ ?_ ?_)
    | (with_reducible refine iE_tup ?_)
    | (with_reducible refine iE_lst ?_)
    | (with_reducible refine iE_sl ?_ ?_ ?_)
    | ((with_reducible apply gCall); first | refine iE_call (by assumption) (by assumption) (by first | decide | omega) rfl ?_ | refine iE_callG (by assumption) (by assumption) (by assumption) (by first | decide | omega) rfl ?_)
    | ((with_reducible apply gCallK); refine iE_callK (by assumption) (by assumption) (by decide) (by decide) (by repeat' first | exact mNil_len | refine mCons_len ?_) rfl ?_)
    | ((with_reducible apply gNewT); exact iE_newT)
    | ((with_reducible apply gDic0); exact iE_dic0)
    | ((with_reducible apply gRepL); refine iE_repL ?_ ?_)
    | ((with_reducible apply gFrT); refine iE_frT ?_)
    | ((with_reducible apply gIsi); refine iE_isi rfl (Gb.isi (by assumption)) ?_ rfl (by first | exact Gb.str (by assumption) | exact Gb.int (by assumption) | exact Gb.bool (by assumption) | exact Gb.list (by assumption) | exact Gb.tuple (by assumption) | exact Gb.dict (by assumption)) (by rfl))
    | ((with_reducible apply gIsi2); refine iE_isi2 rfl (Gb.isi (by assumption)) ?_ rfl (by first | exact Gb.str (by assumption) | exact Gb.int (by assumption) | exact Gb.bool (by assumption) | exact Gb.list (by assumption) | exact Gb.tuple (by assumption) | exact Gb.dict (by assumption)) (by rfl) rfl (by first | exact Gb.str (by assumption) | exact Gb.int (by assumption) | exact Gb.bool (by assumption) | exact Gb.list (by assumption) | exact Gb.tuple (by assumption) | exact Gb.dict (by assumption)) (by rfl))
    | ((with_reducible apply gSS); refine iE_sortedSet rfl rfl (Gb.sorted (by assumption)) rfl (Gb.set (by assumption)) ?_)
    | ((with_reducible apply gLc); refine iE_lc rfl (by assumption) ?_ (blkOk_by (by kernel_rfl)) (fun _ _ _ _ _ => (by first | exact iG_name (by assumption) rfl (by first | exact .inl rfl | exact .inr rfl) | exact iG_pair rfl (by assumption) rfl (by first | exact .inl rfl | exact .inr rfl) (iG_pair rfl (by assumption) rfl (by first | exact .inl rfl | exact .inr rfl) (by refine iG_tup rfl ?_; repeat' first | exact iGs_nil | refine iGs_cons (by assumption) rfl (by first | exact .inl rfl | exact .inr rfl) ?_)) | (refine iG_tup rfl ?_; repeat' first | exact iGs_nil | refine iGs_cons (by assumption) rfl (by first | exact .inl rfl | exact .inr rfl) ?_))) ?_ ?_ (by decide))
    | ((with_reducible apply gLcO); refine iE_lcO rfl (by assumption) (pe_var rfl (by first | exact .inl rfl | exact .inr (.inl rfl) | exact .inr (.inr rfl))) (blkOk_by (by kernel_rfl)) (fun _ _ _ _ _ => (by first | exact iG_name (by assumption) rfl (by first | exact .inl rfl | exact .inr rfl) | exact iG_pair rfl (by assumption) rfl (by first | exact .inl rfl | exact .inr rfl) (iG_pair rfl (by assumption) rfl (by first | exact .inl rfl | exact .inr rfl) (by refine iG_tup rfl ?_; repeat' first | exact iGs_nil | refine iGs_cons (by assumption) rfl (by first | exact .inl rfl | exact .inr rfl) ?_)) | (refine iG_tup rfl ?_; repeat' first | exact iGs_nil | refine iGs_cons (by assumption) rfl (by first | exact .inl rfl | exact .inr rfl) ?_))) ?_ ?_ (by decide))
    | ((with_reducible apply gLc2); refine iE_lc2 rfl (by assumption) ?_ (blkOk_by (by kernel_rfl)) (fun _ _ _ _ _ => (by first | exact iG_name (by assumption) rfl (by first | exact .inl rfl | exact .inr rfl) | exact iG_pair rfl (by assumption) rfl (by first | exact .inl rfl | exact .inr rfl) (iG_pair rfl (by assumption) rfl (by first | exact .inl rfl | exact .inr rfl) (by refine iG_tup rfl ?_; repeat' first | exact iGs_nil | refine iGs_cons (by assumption) rfl (by first | exact .inl rfl | exact .inr rfl) ?_)) | (refine iG_tup rfl ?_; repeat' first | exact iGs_nil | refine iGs_cons (by assumption) rfl (by first | exact .inl rfl | exact .inr rfl) ?_))) ?_ ?_ (fun _ _ _ _ _ => (by first | exact iG_name (by assumption) rfl (by first | exact .inl rfl | exact .inr rfl) | exact iG_pair rfl (by assumption) rfl (by first | exact .inl rfl | exact .inr rfl) (iG_pair rfl (by assumption) rfl (by first | exact .inl rfl | exact .inr rfl) (by refine iG_tup rfl ?_; repeat' first | exact iGs_nil | refine iGs_cons (by assumption) rfl (by first | exact .inl rfl | exact .inr rfl) ?_)) | (refine iG_tup rfl ?_; repeat' first | exact iGs_nil | refine iGs_cons (by assumption) rfl (by first | exact .inl rfl | exact .inr rfl) ?_))) ?_ ?_ (by decide) (by decide) (by decide))
    | ((with_reducible apply gDc); refine iE_dc rfl (by assumption) ?_ (blkOk_by (by kernel_rfl)) (fun _ _ _ _ _ => (by first | exact iG_name (by assumption) rfl (by first | exact .inl rfl | exact .inr rfl) | exact iG_pair rfl (by assumption) rfl (by first | exact .inl rfl | exact .inr rfl) (iG_pair rfl (by assumption) rfl (by first | exact .inl rfl | exact .inr rfl) (by refine iG_tup rfl ?_; repeat' first | exact iGs_nil | refine iGs_cons (by assumption) rfl (by first | exact .inl rfl | exact .inr rfl) ?_)) | (refine iG_tup rfl ?_; repeat' first | exact iGs_nil | refine iGs_cons (by assumption) rfl (by first | exact .inl rfl | exact .inr rfl) ?_))) ?_ ?_ ?_ (by decide))
    | ((with_reducible apply gM1 oRev); refine iE_rev ?_)
    | ((with_reducible apply gM1 oRevT); refine iE_revT ?_)
    | ((with_reducible apply gIdx); refine iE_idx ?_ ?_)
    | ((with_reducible apply gIdxL); refine iE_idxL ?_ ?_)
    | ((with_reducible apply gLR); refine iE_listR rfl rfl (Gb.list (by assumption)) rfl (Gb.range (by assumption)) ?_)
    | ((with_reducible apply gSSI); refine iE_sortedSetI rfl rfl (Gb.sorted (by assumption)) rfl (Gb.set (by assumption)) ?_)
    | fail))
  | ((with_reducible apply cA); (first
    | ((with_reducible apply gA); refine iA_cons ?_ ?_)
    | (with_reducible exact iA_nil)
    | fail))
  | ((with_reducible apply cT); (first
    | ((with_reducible apply cT2); (first
      | ((with_reducible apply gT2 oEq); refine iT_cmp (op_eqD (Room.units (by assumption))) s_eq ?_ ?_ (by rfl))
      | ((with_reducible apply gT2 oNe); refine iT_cmp (op_neD (Room.units (by assumption))) s_ne ?_ ?_ (by rfl))
      | ((with_reducible apply gT2 oLt); refine iT_cmp op_lt s_lt ?_ ?_ (by rfl))
      | ((with_reducible apply gT2 oLe); refine iT_cmp op_le s_le ?_ ?_ (by rfl))
      | ((with_reducible apply gT2 oGt); refine iT_cmp op_gt s_gt ?_ ?_ (by rfl))
      | ((with_reducible apply gT2 oGe); refine iT_cmp op_ge s_ge ?_ ?_ (by rfl))
      | ((with_reducible apply gT2 (oIn false)); refine iT_cmp (op_inU (Room.units (by assumption))) (s_in false) ?_ ?_ (by rfl))
      | ((with_reducible apply gT2 (oIn true)); refine iT_cmp (op_notInU (Room.units (by assumption))) (s_in true) ?_ ?_ (by rfl))
      | ((with_reducible apply gT2 oIsN); refine iT_cmp op_isN s_isN ?_ ?_ (by rfl))
      | ((with_reducible apply gT2 oNotN); refine iT_cmp op_notN s_notN ?_ ?_ (by rfl))
      | ((with_reducible apply gT2 oIsB); refine iT_cmp op_isB s_isB ?_ ?_ (by rfl))
      | ((with_reducible apply gT2 oNotB); refine iT_cmp op_notB s_notB ?_ ?_ (by rfl))
      | ((with_reducible apply gT2 (oInT false)); refine iT_cmp (or_inT (room3 (by assumption))) (s_inT false) ?_ ?_ (by rfl))
      | ((with_reducible apply gT2 (oInT true)); refine iT_cmp (or_notInT (room3 (by assumption))) (s_inT true) ?_ ?_ (by rfl))
      | ((with_reducible apply gT2 (oTxIn false)); refine iT_cmp (op_txIn (Room.units (by assumption))) (s_txIn false) ?_ ?_ (by rfl))
      | ((with_reducible apply gT2 oEqS); refine iT_cmp op_eq s_eqS ?_ ?_ (by rfl))
      | ((with_reducible apply gT2 oNeS); refine iT_cmp op_ne s_neS ?_ ?_ (by rfl))
      | fail))
    | ((with_reducible apply cTCh); (first
      | ((with_reducible apply gTCh oLe oLe); refine iT_chain op_le s_le op_le s_le ?_ ?_ ?_)
      | ((with_reducible apply gTCh oLe oLt); refine iT_chain op_le s_le op_lt s_lt ?_ ?_ ?_)
      | ((with_reducible apply gTCh oLt oLe); refine iT_chain op_lt s_lt op_le s_le ?_ ?_ ?_)
      | ((with_reducible apply gTCh oLt oLt); refine iT_chain op_lt s_lt op_lt s_lt ?_ ?_ ?_)
      | ((with_reducible apply gTCh oLt oGt); refine iT_chain op_lt s_lt op_gt s_gt ?_ ?_ ?_)
      | fail))
    | (with_reducible refine iT_w (iW_and ?_ ?_))
    | (with_reducible refine iT_w (iW_or ?_ ?_))
    | (with_reducible refine iT_not ?_)
    | ((with_reducible apply gTru); refine iT_tru ?_)
    | fail))
  | ((with_reducible apply cS); (first
    | ((with_reducible apply gAsT); refine iS_asgT ?_ (by first | exact iG_name (by assumption) rfl (by first | exact .inl rfl | exact .inr rfl) | exact iG_pair rfl (by assumption) rfl (by first | exact .inl rfl | exact .inr rfl) (iG_pair rfl (by assumption) rfl (by first | exact .inl rfl | exact .inr rfl) (by refine iG_tup rfl ?_; repeat' first | exact iGs_nil | refine iGs_cons (by assumption) rfl (by first | exact .inl rfl | exact .inr rfl) ?_)) | (refine iG_tup rfl ?_; repeat' first | exact iGs_nil | refine iGs_cons (by assumption) rfl (by first | exact .inl rfl | exact .inr rfl) ?_)))
    | (with_reducible exact iS_bad)
    | (with_reducible exact iS_pass)
    | (with_reducible exact iS_doc)
    | (with_reducible exact iS_break)
    | (with_reducible exact iS_cont)
    | (with_reducible exact iS_retN)
    | (with_reducible refine iS_if ?_ ?_ ?_)
    | ((with_reducible apply gWh); refine iS_while (passes_of rfl) ?_ ?_)
    | ((with_reducible apply gFor); refine iS_for (passes_of rfl) rfl ?_ (by first | exact iG_name (by assumption) rfl (by first | exact .inl rfl | exact .inr rfl) | exact iG_pair rfl (by assumption) rfl (by first | exact .inl rfl | exact .inr rfl) (iG_pair rfl (by assumption) rfl (by first | exact .inl rfl | exact .inr rfl) (by refine iG_tup rfl ?_; repeat' first | exact iGs_nil | refine iGs_cons (by assumption) rfl (by first | exact .inl rfl | exact .inr rfl) ?_)) | (refine iG_tup rfl ?_; repeat' first | exact iGs_nil | refine iGs_cons (by assumption) rfl (by first | exact .inl rfl | exact .inr rfl) ?_)) ?_)
    | ((with_reducible apply gRetU); refine iS_retU ?_)
    | (with_reducible refine iS_retT ?_)
    | (with_reducible refine iS_ret ?_)
    | ((with_reducible apply gSet); (first | refine iS_setLc rfl (by assumption) rfl rfl (sw_true rfl rfl (by rfl) (by rfl)) ?_ (blkOk_by (by kernel_rfl)) (fun _ _ _ _ _ => (by first | exact iG_name (by assumption) rfl (by first | exact .inl rfl | exact .inr rfl) | exact iG_pair rfl (by assumption) rfl (by first | exact .inl rfl | exact .inr rfl) (iG_pair rfl (by assumption) rfl (by first | exact .inl rfl | exact .inr rfl) (by refine iG_tup rfl ?_; repeat' first | exact iGs_nil | refine iGs_cons (by assumption) rfl (by first | exact .inl rfl | exact .inr rfl) ?_)) | (refine iG_tup rfl ?_; repeat' first | exact iGs_nil | refine iGs_cons (by assumption) rfl (by first | exact .inl rfl | exact .inr rfl) ?_))) ?_ ?_ (by decide) | refine iS_set (by assumption) rfl (by first | exact .inl rfl | exact .inr rfl) ?_))
    | ((with_reducible apply gSetO); (first | refine iS_setLcO rfl (by assumption) rfl rfl (sw_true rfl rfl (by rfl) (by rfl)) (pe_var rfl (by first | exact .inl rfl | exact .inr (.inl rfl) | exact .inr (.inr rfl))) (blkOk_by (by kernel_rfl)) (fun _ _ _ _ _ => (by first | exact iG_name (by assumption) rfl (by first | exact .inl rfl | exact .inr rfl) | exact iG_pair rfl (by assumption) rfl (by first | exact .inl rfl | exact .inr rfl) (iG_pair rfl (by assumption) rfl (by first | exact .inl rfl | exact .inr rfl) (by refine iG_tup rfl ?_; repeat' first | exact iGs_nil | refine iGs_cons (by assumption) rfl (by first | exact .inl rfl | exact .inr rfl) ?_)) | (refine iG_tup rfl ?_; repeat' first | exact iGs_nil | refine iGs_cons (by assumption) rfl (by first | exact .inl rfl | exact .inr rfl) ?_))) ?_ ?_ (by decide) | refine iS_set (by assumption) rfl (by first | exact .inl rfl | exact .inr rfl) ?_))
    | ((with_reducible apply gSt); refine iS_set (by assumption) rfl (by first | exact .inl rfl | exact .inr rfl) ?_)
    | ((with_reducible apply gSetF); (first | refine iS_setLcF rfl (by assumption) rfl rfl (sw_true rfl rfl (by rfl) (by rfl)) ?_ (blkOk_by (by kernel_rfl)) (fun _ _ _ _ _ => (by first | exact iG_name (by assumption) rfl (by first | exact .inl rfl | exact .inr rfl) | exact iG_pair rfl (by assumption) rfl (by first | exact .inl rfl | exact .inr rfl) (iG_pair rfl (by assumption) rfl (by first | exact .inl rfl | exact .inr rfl) (by refine iG_tup rfl ?_; repeat' first | exact iGs_nil | refine iGs_cons (by assumption) rfl (by first | exact .inl rfl | exact .inr rfl) ?_)) | (refine iG_tup rfl ?_; repeat' first | exact iGs_nil | refine iGs_cons (by assumption) rfl (by first | exact .inl rfl | exact .inr rfl) ?_))) ?_ ?_ (by decide) | refine iS_setF (by assumption) rfl (by first | exact .inl rfl | exact .inr rfl) ?_))
    | ((with_reducible apply gStF); refine iS_setF (by assumption) rfl (by first | exact .inl rfl | exact .inr rfl) ?_)
    | ((with_reducible apply gAug oIAdd); refine iS_aug (by assumption) rfl (by first | exact .inl rfl | exact .inr rfl) iop_add s_iadd ?_)
    | ((with_reducible apply gAug oSub); refine iS_aug (by assumption) rfl (by first | exact .inl rfl | exact .inr rfl) iop_sub s_sub ?_)
    | ((with_reducible apply gSx fSetT); refine iS_setIxT (room3 (by assumption)) (pe_var rfl (by first | exact .inl rfl | exact .inr (.inl rfl) | exact .inr (.inr rfl))) ?_ ?_)
    | ((with_reducible apply gSx fSetL); refine iS_setIx (pe_var rfl (by first | exact .inl rfl | exact .inr (.inl rfl) | exact .inr (.inr rfl))) ?_ ?_)
    | ((with_reducible apply gCut); refine iS_cut (pe_var rfl (by first | exact .inl rfl | exact .inr (.inl rfl) | exact .inr (.inr rfl))) ?_)
    | ((with_reducible apply gSw); refine iS_swap rfl (pe_var rfl (by first | exact .inl rfl | exact .inr (.inl rfl) | exact .inr (.inr rfl))) ?_ (pe_var rfl (by first | exact .inl rfl | exact .inr (.inl rfl) | exact .inr (.inr rfl))) ?_ ?_)
    | ((with_reducible apply gPar); (first | refine iS_par rfl (by assumption) rfl rfl (by decide) rfl rfl ?_ (by rfl) | refine iS_par3 rfl (by assumption) rfl rfl rfl (by decide) (by decide) (by decide) rfl rfl rfl ?_ (by rfl)))
    | ((with_reducible apply gAs); refine iS_asg ?_ (by first | exact iG_name (by assumption) rfl (by first | exact .inl rfl | exact .inr rfl) | exact iG_pair rfl (by assumption) rfl (by first | exact .inl rfl | exact .inr rfl) (iG_pair rfl (by assumption) rfl (by first | exact .inl rfl | exact .inr rfl) (by refine iG_tup rfl ?_; repeat' first | exact iGs_nil | refine iGs_cons (by assumption) rfl (by first | exact .inl rfl | exact .inr rfl) ?_)) | (refine iG_tup rfl ?_; repeat' first | exact iGs_nil | refine iGs_cons (by assumption) rfl (by first | exact .inl rfl | exact .inr rfl) ?_)))
    | ((with_reducible apply gDrop); refine iS_expr ?_)
    | fail))
  | ((with_reducible apply cSs); (first
    | ((with_reducible apply gTold); refine iSs_told (by assumption) rfl (by first | exact .inl rfl | exact .inr rfl) (by first | exact .inl rfl | exact .inr (.inl rfl) | exact .inr (.inr rfl)) ?_ ?_ ?_ ?_ iE_bl)
    | (with_reducible refine iSs_cons ?_ ?_)
    | (with_reducible refine iSs_one ?_)
    | (with_reducible exact iSs_nil)
    | fail))
  | ((with_reducible apply cK); (first
    | (with_reducible refine iK_cons ?_ ?_)
    | (with_reducible exact iK_nil)
    | fail))
  | (with_reducible exact iO_none)
  | (with_reducible refine iO_some ?_)
  | (with_reducible exact iF_nil)
  | (with_reducible refine iF_one ?_)
  | ((with_reducible apply gI1); refine iI_range1 rfl (Gb.range (by assumption)) ?_)
  | ((with_reducible apply gI3); refine iI_range3 rfl (Gb.range (by assumption)) ?_)
  | ((with_reducible apply gI2); refine iI_range2 rfl (Gb.range (by assumption)) ?_)
  | ((with_reducible apply gIez); refine iI_ez rfl (Gb.enumerate (by assumption)) rfl (Gb.zip (by assumption)) ?_)
  | ((with_reducible apply gIzp); refine iI_zip rfl (Gb.zip (by assumption)) ?_)
  | ((with_reducible apply gIe); refine iI_enum rfl (Gb.enumerate (by assumption)) ?_)
  | (with_reducible refine iI_U ?_)
  | (with_reducible refine iW_and ?_ ?_)
  | (with_reducible refine iW_or ?_ ?_)
  | (with_reducible refine iW_and1 ?_)
  | (with_reducible refine iW_or1 ?_)
  | (with_reducible intro _ _ _ _ _)
  | fail))

-- is_car: 0=value 1=letter
def m_is_car : MS := (mSeq (mIfS (mOrT (mNotT (mTru (mIsi (mVar 0) "str"))) (mNotT (mTest (mChain oLe oLe (mC (.int 1)) (mB oLen (mCons (mVar 0) mNil)) (mC (.int 4)))))) (mRet (mC (.bool false))) mSkip) (mRet (mB oAll (mCons (mCompN [("letter", 1)] (store 1) (mIter (mVar 0)) mYes (m2 (oIn false) (mVar 1) (mC (.str "abcdefghijklmnopqrstuvwxyz")))) mNil))))
def fn_is_car : Fn := runFn 1 1 m_is_car
-- is_lane: 0=value 1=car
def m_is_lane : MS := (mRet (mAnd (mIsi (mVar 0) "tuple") (mAnd (mB oAll (mCons (mCompN [("car", 1)] (store 1) (mIter (mVar 0)) mYes (mCall [false] fn_is_car (mCons (mVar 1) mNil))) mNil)) (m2 oEq (mB oLen (mCons (mB oSet (mCons (mVar 0) mNil)) mNil)) (mB oLen (mCons (mVar 0) mNil))))))
def fn_is_lane : Fn := runFn 1 1 m_is_lane
-- is_side: 0=value
def m_is_side : MS := (mRet (mAnd (mIsi (mVar 0) "str") (m2 (oIn false) (mVar 0) (mTup (mCons (mC (.str "L")) (mCons (mC (.str "R")) mNil))))))
def fn_is_side : Fn := runFn 1 0 m_is_side
-- is_arrival: 0=value
def m_is_arrival : MS := (mSeq (mIfS (mOrT (mNotT (mTru (mIsi (mVar 0) "tuple"))) (mTest (m2 oNe (mB oLen (mCons (mVar 0) mNil)) (mC (.int 2))))) (mRet (mC (.bool false))) mSkip) (mRet (mAnd (mIsi (m2 oIx (mVar 0) (mC (.int 0))) "str") (mAnd (m2 oEq (m2 oIx (mVar 0) (mC (.int 0))) (mC (.str "in"))) (mCall [false] fn_is_car (mCons (m2 oIx (mVar 0) (mC (.int 1))) mNil))))))
def fn_is_arrival : Fn := runFn 1 0 m_is_arrival
-- is_departure: 0=value
def m_is_departure : MS := (mRet (mAnd (mIsi (mVar 0) "tuple") (mAnd (m2 oEq (mB oLen (mCons (mVar 0) mNil)) (mC (.int 1))) (mAnd (mIsi (m2 oIx (mVar 0) (mC (.int 0))) "str") (m2 oEq (m2 oIx (mVar 0) (mC (.int 0))) (mC (.str "out")))))))
def fn_is_departure : Fn := runFn 1 0 m_is_departure
-- check_lane: 0=value
def m_check_lane : MS := (mIfS (mNotT (mTru (mCall [false] fn_is_lane (mCons (mVar 0) mNil)))) mBad mSkip)
def fn_check_lane : Fn := runFn 1 0 m_check_lane
-- is_log_for: 0=start 1=value 2=used 3=size 4=event
def m_is_log_for : MS := (mSeq (mIfS (mNotT (mTru (mIsi (mVar 1) "list"))) (mRet (mC (.bool false))) mSkip) (mSeq (mAsg (store 2) (mB oSet (mCons (mVar 0) mNil))) (mSeq (mAsg (store 3) (mB oLen (mCons (mVar 0) mNil))) (mSeq (mFor (store 4) (mIter (mVar 1)) (mIfS (mAndT (mTru (mCall [false] fn_is_arrival (mCons (mVar 4) mNil))) (mTest (m2 (oIn true) (m2 oIx (mVar 4) (mC (.int 1))) (mVar 2)))) (mSeq (mDrop (mMeth 1 2 fAdd (mCons (m2 oIx (mVar 4) (mC (.int 1))) mNil))) (mAug 3 oIAdd (mC (.int 1)))) (mIfS (mAndT (mTru (mCall [false] fn_is_departure (mCons (mVar 4) mNil))) (mTest (m2 oGt (mVar 3) (mC (.int 0))))) (mAug 3 oSub (mC (.int 1))) (mRet (mC (.bool false)))))) (mRet (mC (.bool true)))))))
def fn_is_log_for : Fn := runFn 2 3 m_is_log_for
-- check_log: 0=start 1=log
def m_check_log : MS := (mSeq (mDrop (mCall [false] fn_check_lane (mCons (mVar 0) mNil))) (mIfS (mNotT (mTru (mCall [false, false] fn_is_log_for (mCons (mVar 0) (mCons (mVar 1) mNil))))) mBad mSkip))
def fn_check_log : Fn := runFn 2 0 m_check_log
-- count_sizes: 0=start 1=log 2=found 3=event
def m_count_sizes : MS := (mSeq (mAsg (store 2) (mLst (mCons (mB oLen (mCons (mVar 0) mNil)) mNil))) (mSeq (mFor (store 3) (mIter (mVar 1)) (mDrop (mMeth 0 2 fAppend (mCons (m2 oAdd (m2 oIx (mVar 2) (m1 oNeg (mC (.int 1)))) (mIf (mTest (m2 oEq (m2 oIx (mVar 3) (mC (.int 0))) (mC (.str "in")))) (mC (.int 1)) (m1 oNeg (mC (.int 1))))) mNil)))) (mRet (mVar 2))))
def fn_count_sizes : Fn := runFn 2 2 m_count_sizes
-- sizes: 0=start 1=log
def m_sizes : MS := (mSeq (mDrop (mCall [false, false] fn_check_log (mCons (mVar 0) (mCons (mVar 1) mNil)))) (mRet (mCall [false, false] fn_count_sizes (mCons (mVar 0) (mCons (mVar 1) mNil)))))
def fn_sizes : Fn := runFn 2 0 m_sizes
-- car_numbers: 0=start 1=log 2=cars 3=number 4=car 5=event
def m_car_numbers : MS := (mSeq (mAsgF 2 (m2 oAdd (mB oList (mCons (mVar 0) mNil)) (mCompN [("event", 5)] (store 5) (mIter (mVar 1)) (mTest (m2 oEq (m2 oIx (mVar 5) (mC (.int 0))) (mC (.str "in")))) (m2 oIx (mVar 5) (mC (.int 1)))))) (mRet (mDCompN [("number", 3), ("car", 4)] (mNames [3, 4]) (mEnum (mCons (mVar 2) mNil)) mYes (mVar 4) (mVar 3))))
def fn_car_numbers : Fn := runFn 2 4 m_car_numbers
-- numbers: 0=start 1=log
def m_numbers : MS := (mSeq (mDrop (mCall [false, false] fn_check_log (mCons (mVar 0) (mCons (mVar 1) mNil)))) (mRet (mB oListM (mCons (mCall [false, false] fn_car_numbers (mCons (mVar 0) (mCons (mVar 1) mNil))) mNil))))
def fn_numbers : Fn := runFn 2 0 m_numbers
-- replayed: 0=start 1=log 2=sides 3=lane 4=departed 5=event 6=side
def m_replayed : MS := (mSeq (mAsg (store 3) (mB oList (mCons (mVar 0) mNil))) (mSeq (mAsg (store 4) (mLst mNil)) (mSeq (mFor (mNames [5, 6]) (mZip (mCons (mVar 1) (mCons (mVar 2) mNil))) (mIfS (mTest (m2 oEq (m2 oIx (mVar 5) (mC (.int 0))) (mC (.str "in")))) (mDrop (mMeth 0 3 fInsert (mCons (mIf (mTest (m2 oEq (mVar 6) (mC (.str "L")))) (mC (.int 0)) (mB oLen (mCons (mVar 3) mNil))) (mCons (m2 oIx (mVar 5) (mC (.int 1))) mNil)))) (mDrop (mMeth 0 4 fAppend (mCons (mMeth 0 3 fPopAt (mCons (mIf (mTest (m2 oEq (mVar 6) (mC (.str "L")))) (mC (.int 0)) (m1 oNeg (mC (.int 1)))) mNil)) mNil))))) (mRetT (mCons (mB oTuple (mCons (mVar 3) mNil)) (mCons (mVar 4) mNil))))))
def fn_replayed : Fn := runFn 3 4 m_replayed
-- replay: 0=start 1=log 2=sides 3=side
def m_replay : MS := (mSeq (mDrop (mCall [false, false] fn_check_log (mCons (mVar 0) (mCons (mVar 1) mNil)))) (mSeq (mIfS (mOrT (mNotT (mTru (mIsi (mVar 2) "list"))) (mOrT (mTest (m2 oNe (mB oLen (mCons (mVar 2) mNil)) (mB oLen (mCons (mVar 1) mNil)))) (mNotT (mTru (mB oAll (mCons (mCompN [("side", 3)] (store 3) (mIter (mVar 2)) mYes (mCall [false] fn_is_side (mCons (mVar 3) mNil))) mNil)))))) mBad mSkip) (mRetU (mCall [false, false, false] fn_replayed (mCons (mVar 0) (mCons (mVar 1) (mCons (mVar 2) mNil)))))))
def fn_replay : Fn := runFn 3 1 m_replay
-- _law_source: 0=script 1=k 2=cell
def m__law_source : MS := (mSeq (mAsgF 2 (mIf (mTest (m2 oLt (mVar 1) (mB oLen (mCons (mVar 0) mNil)))) (m2 oIx (mVar 0) (mVar 1)) (mC (.int 0)))) (mRet (mLst (mCons (mB oMax (mCons (mC (.int 0)) (mCons (m2 oSub (mB oAbs (mCons (mVar 2) mNil)) (m2 oPow (mC (.int 10)) (mC (.int 18)))) mNil))) (mCons (m2 oAdd (m2 oMod (mVar 2) (m2 oAdd (m2 oPow (mC (.int 10)) (mC (.int 38))) (mC (.int 133)))) (m2 oMul (mC (.int 31607)) (mVar 1))) (mCons (mC (.int 0)) mNil))))))
def fn__law_source : Fn := runFn 2 1 m__law_source
-- _law_draw: 0=source 1=limit 2=mixed 3=found
def m__law_draw : MS := (mSeq (mIfS (mTest (m2 oGt (m2 oIx (mVar 0) (mC (.int 0))) (mC (.int 0)))) (mSeq (mAsgF 3 (m2 oMod (m2 oIx (mVar 0) (mC (.int 0))) (mVar 1))) (mSeq (mSetIx 0 fSetL (mC (.int 0)) (m2 oDiv (m2 oIx (mVar 0) (mC (.int 0))) (mVar 1))) (mRet (mVar 3)))) mSkip) (mSeq (mSetIx 0 fSetL (mC (.int 2)) (m2 oAdd (m2 oIx (mVar 0) (mC (.int 2))) (mC (.int 1)))) (mSeq (mAsgF 2 (m2 oMod (m2 oPow (m2 oAdd (m2 oIx (mVar 0) (mC (.int 1))) (m2 oMul (mC (.int 49979687)) (m2 oIx (mVar 0) (mC (.int 2))))) (mC (.int 3))) (m2 oAdd (m2 oPow (mC (.int 10)) (mC (.int 37))) (mC (.int 43))))) (mSeq (mAsgF 2 (m2 oMod (m2 oPow (m2 oAdd (mVar 2) (m2 oMul (mC (.int 15485863)) (m2 oIx (mVar 0) (mC (.int 2))))) (mC (.int 3))) (m2 oAdd (m2 oPow (mC (.int 10)) (mC (.int 36))) (mC (.int 67))))) (mRet (m2 oMod (m2 oDiv (mVar 2) (mC (.int 131071))) (mVar 1)))))))
def fn__law_draw : Fn := runFn 2 2 m__law_draw
-- _law_mixed: 0=source 1=things 2=spare 3=k
def m__law_mixed : MS := (mSeq (mAsg (store 2) (mB oList (mCons (mVar 1) mNil))) (mRet (mCompN [("k", 3)] (store 3) (mRange1 (mCons (mB oLen (mCons (mVar 1) mNil)) mNil)) mYes (mMeth 0 2 fPopAt (mCons (mCall [true, false] fn__law_draw (mCons (mVar 0) (mCons (mB oLen (mCons (mVar 2) mNil)) mNil))) mNil)))))
def fn__law_mixed : Fn := runFn 2 2 m__law_mixed
-- _law_vehicles: 0=source 1=count 2=letters 3=found 4=style 5=k 6=name
def m__law_vehicles : MS := (mSeq (mAsgF 2 (mC (.str "abcdefghijklmnopqrstuvwxyz"))) (mSeq (mAsgF 3 (mCompN [("k", 5)] (store 5) (mRange1 (mCons (mVar 1) mNil)) mYes (m2 oAdd (m2 oIx (mVar 2) (m2 oDiv (mVar 5) (mC (.int 26)))) (m2 oIx (mVar 2) (m2 oMod (mVar 5) (mC (.int 26))))))) (mSeq (mAsgF 4 (mCall [true, false] fn__law_draw (mCons (mVar 0) (mCons (mC (.int 4)) mNil)))) (mSeq (mIfS (mTest (m2 oEq (mVar 4) (mC (.int 0)))) (mAsgF 3 (mCompN [("name", 6)] (store 6) (mIter (mVar 3)) mYes (m2 oAdd (mC (.str "zy")) (mVar 6)))) mSkip) (mSeq (mIfS (mTest (m2 oEq (mVar 4) (mC (.int 1)))) (mAsgF 3 (mCompN [("name", 6)] (store 6) (mIter (mVar 3)) mYes (m2 oAdd (m2 oIx (mVar 6) (mC (.int 1))) (m2 oIx (mVar 6) (mC (.int 0)))))) mSkip) (mSeq (mIfS (mTest (m2 oEq (mVar 4) (mC (.int 2)))) (mAsgF 3 (mSl (m2 oAdd (mLst (mCons (mC (.str "in")) (mCons (mC (.str "out")) (mCons (mC (.str "l")) (mCons (mC (.str "r")) (mCons (mC (.str "a")) (mCons (mC (.str "zzzz")) (mCons (mC (.str "aaaa")) (mCons (mC (.str "none")) (mCons (mC (.str "x")) mNil)))))))))) (mCompN [("name", 6)] (store 6) (mIter (mVar 3)) mYes (m2 oAdd (mVar 6) (mC (.str "q"))))) mNoP (mP (mVar 1)))) mSkip) (mRet (mCall [true, false] fn__law_mixed (mCons (mVar 0) (mCons (mVar 3) mNil))))))))))
def fn__law_vehicles : Fn := runFn 2 5 m__law_vehicles
-- _law_happened: 0=source 1=present 2=spare 3=most 4=found 5=left 6=lean 7=k 8=arrives
def m__law_happened : MS := (mSeq (mAsg (store 4) (mLst mNil)) (mSeq (mAsg (store 5) (mB oList (mCons (mVar 2) mNil))) (mSeq (mAsgF 6 (m2 oAdd (mC (.int 2)) (mCall [true, false] fn__law_draw (mCons (mVar 0) (mCons (mC (.int 3)) mNil))))) (mSeq (mFor (store 7) (mRange1 (mCons (mCall [true, false] fn__law_draw (mCons (mVar 0) (mCons (m2 oAdd (mVar 3) (mC (.int 1))) mNil))) mNil)) (mSeq (mAsgF 8 (m2 oGt (mCall [true, false] fn__law_draw (mCons (mVar 0) (mCons (mVar 6) mNil))) (mC (.int 0)))) (mIfS (mAndT (mTest (m2 oNe (mVar 5) (mLst mNil))) (mAndT (mTest (m2 oLt (mVar 1) (mC (.int 40)))) (mOrT (mTest (m2 oEq (mVar 1) (mC (.int 0)))) (mTru (mVar 8))))) (mSeq (mDrop (mMeth 0 4 fAppend (mCons (mTup (mCons (mC (.str "in")) (mCons (mMeth 0 5 fPopAt (mCons (mC (.int 0)) mNil)) mNil))) mNil))) (mAsgF 1 (m2 oAdd (mVar 1) (mC (.int 1))))) (mIfS (mTest (m2 oGt (mVar 1) (mC (.int 0)))) (mSeq (mDrop (mMeth 0 4 fAppend (mCons (mTup (mCons (mC (.str "out")) mNil)) mNil))) (mAsgF 1 (m2 oSub (mVar 1) (mC (.int 1))))) mSkip)))) (mRet (mVar 4))))))
def fn__law_happened : Fn := runFn 4 5 m__law_happened
-- _law_rows: 0=initial 1=happened 2=moves 3=rows 4=gone 5=event 6=move 7=here
def m__law_rows : MS := (mSeq (mPar [3, 4] (mCons (mLst (mCons (mVar 0) mNil)) (mCons (mLst mNil) mNil))) (mSeq (mFor (mNames [5, 6]) (mZip (mCons (mVar 1) (mCons (mVar 2) mNil))) (mSeq (mAsgF 7 (m2 oIx (mVar 3) (m1 oNeg (mC (.int 1))))) (mSeq (mIfS (mTest (m2 oEq (m2 oIx (mVar 5) (mC (.int 0))) (mC (.str "in")))) (mAsgF 7 (mIf (mTest (m2 oEq (mVar 6) (mC (.str "L")))) (m2 oAdd (mSl (mVar 5) (mP (mC (.int 1))) mNoP) (mVar 7)) (m2 oAdd (mVar 7) (mSl (mVar 5) (mP (mC (.int 1))) mNoP)))) (mSeq (mDrop (mMeth 0 4 fAppend (mCons (mIf (mTest (m2 oEq (mVar 6) (mC (.str "L")))) (m2 oIx (mVar 7) (mC (.int 0))) (m2 oIx (mVar 7) (m1 oNeg (mC (.int 1))))) mNil))) (mAsgF 7 (mIf (mTest (m2 oEq (mVar 6) (mC (.str "L")))) (mSl (mVar 7) (mP (mC (.int 1))) mNoP) (mSl (mVar 7) mNoP (mP (m1 oNeg (mC (.int 1))))))))) (mDrop (mMeth 0 3 fAppend (mCons (mVar 7) mNil)))))) (mRetT (mCons (mVar 3) (mCons (mVar 4) mNil)))))
def fn__law_rows : Fn := runFn 3 5 m__law_rows
-- _law_right: 0=initial 1=happened 2=moves 3=shown 4=counts 5=order 6=turn 7=told 8=rows 9=gone 10=here 11=event
def m__law_right : MS := (mSeq (mAsgF 3 (mB oReprJ (mCons (mLst (mCons (mVar 0) (mCons (mVar 1) (mCons (mVar 2) mNil)))) mNil))) (mSeq (mAsgT [8, 9] (mCall [false, false, false] fn__law_rows (mCons (mVar 0) (mCons (mVar 1) (mCons (mVar 2) mNil))))) (mSeq (mAsgF 4 (mCompN [("here", 10)] (store 10) (mIter (mVar 8)) mYes (mB oLen (mCons (mVar 10) mNil)))) (mSeq (mAsgF 5 (m2 oAdd (mB oList (mCons (mVar 0) mNil)) (mCompN [("event", 11)] (store 11) (mIter (mVar 1)) (mTest (m2 oEq (m2 oIx (mVar 11) (mC (.int 0))) (mC (.str "in")))) (m2 oIx (mVar 11) (mC (.int 1)))))) (mSeq (mFor (store 6) (mRange1 (mCons (mC (.int 2)) mNil)) (mTold 7 (mCall [false, false] fn_sizes (mCons (mVar 0) (mCons (mVar 1) mNil))) (mCall [false, false] fn_numbers (mCons (mVar 0) (mCons (mVar 1) mNil))) (mCall [false, false, false] fn_replay (mCons (mVar 0) (mCons (mVar 1) (mCons (mVar 2) mNil)))) (mOrT (mTest (m2 oNeS (mB oReprJ (mCons (mVar 7) mNil)) (mB oReprJ (mCons (mLst (mCons (mVar 4) (mCons (mVar 5) (mCons (mTup (mCons (m2 oIx (mVar 8) (m1 oNeg (mC (.int 1)))) (mCons (mVar 9) mNil))) mNil)))) mNil)))) (mTest (m2 oNeS (mB oReprJ (mCons (mLst (mCons (mVar 0) (mCons (mVar 1) (mCons (mVar 2) mNil)))) mNil)) (mVar 3)))))) (mSeq (mAsgF 7 (mLst (mCons (mCallK [1, 0] [false, false] fn_sizes (mCons (mVar 1) (mCons (mVar 0) mNil))) (mCons (mCallK [1, 0] [false, false] fn_numbers (mCons (mVar 1) (mCons (mVar 0) mNil))) mNil)))) (mRet (m2 oEq (m2 oAdd (mVar 7) (mLst (mCons (mFrT (mCallK [2, 1, 0] [false, false, false] fn_replay (mCons (mVar 2) (mCons (mVar 1) (mCons (mVar 0) mNil))))) mNil))) (mLst (mCons (mVar 4) (mCons (mVar 5) (mCons (mTup (mCons (m2 oIx (mVar 8) (m1 oNeg (mC (.int 1)))) (mCons (mVar 9) mNil))) mNil))))))))))))
def fn__law_right : Fn := runFn 3 9 m__law_right
-- law: 0=script 1=k 2=source 3=turn 4=fleet 5=initial 6=happened 7=moves 8=cut 9=event
def m_law : MS := (mSeq (mFor (store 1) (mRange1 (mCons (mB oMax (mCons (mC (.int 1)) (mCons (mB oMin (mCons (mC (.int 5)) (mCons (mB oLen (mCons (mVar 0) mNil)) mNil))) mNil))) mNil)) (mSeq (mAsg (store 2) (mCall [false, false] fn__law_source (mCons (mVar 0) (mCons (mVar 1) mNil)))) (mFor (store 3) (mRange1 (mCons (mC (.int 3)) mNil)) (mSeq (mAsgF 4 (mCall [true, false] fn__law_vehicles (mCons (mVar 2) (mCons (m2 oAdd (mC (.int 1)) (mCall [true, false] fn__law_draw (mCons (mVar 2) (mCons (m2 oIx (mLst (mCons (mC (.int 6)) (mCons (mC (.int 30)) (mCons (mC (.int 160)) mNil)))) (mCall [true, false] fn__law_draw (mCons (mVar 2) (mCons (mC (.int 3)) mNil)))) mNil)))) mNil)))) (mSeq (mAsgF 5 (mB oTuple (mCons (mSl (mVar 4) mNoP (mP (mB oMin (mCons (mC (.int 40)) (mCons (mCall [true, false] fn__law_draw (mCons (mVar 2) (mCons (m2 oAdd (mB oLen (mCons (mVar 4) mNil)) (mC (.int 1))) mNil))) mNil))))) mNil))) (mSeq (mAsg (store 6) (mCall [true, false, false, false] fn__law_happened (mCons (mVar 2) (mCons (mB oLen (mCons (mVar 5) mNil)) (mCons (mSl (mVar 4) (mP (mB oLen (mCons (mVar 5) mNil))) mNoP) (mCons (m2 oIx (mLst (mCons (mC (.int 8)) (mCons (mC (.int 120)) mNil))) (mCall [true, false] fn__law_draw (mCons (mVar 2) (mCons (mC (.int 2)) mNil)))) mNil)))))) (mSeq (mAsg (store 7) (mCompO [("event", 9)] 6 (store 9) mYes (m2 oIx (mC (.str "LR")) (mCall [true, false] fn__law_draw (mCons (mVar 2) (mCons (mC (.int 2)) mNil)))))) (mSeq (mIfS (mNotT (mTru (mCall [false, false, false] fn__law_right (mCons (mVar 5) (mCons (mVar 6) (mCons (mVar 7) mNil)))))) (mRet (mC (.bool false))) mSkip) (mSeq (mAsgF 8 (mCall [true, false] fn__law_draw (mCons (mVar 2) (mCons (m2 oAdd (mB oLen (mCons (mVar 6) mNil)) (mC (.int 1))) mNil)))) (mSeq (mCut 6 (mVar 8)) (mSeq (mCut 7 (mVar 8)) (mIfS (mNotT (mTru (mCall [false, false, false] fn__law_right (mCons (mVar 5) (mCons (mVar 6) (mCons (mVar 7) mNil)))))) (mRet (mC (.bool false))) mSkip)))))))))))) (mRet (mC (.bool true))))
def fn_law : Fn := runFn 1 9 m_law
theorem gb {K : Fg} {mg : Str → Option Value} {h : Heap} (c : He.SaysD fa fn K) (KX : K.In h) (Gn : h.Ns mainGlobals mg) : Gb mg := ⟨He.free_ok KX Gn (c.fact 22 (f := .free "len") rfl), He.free_ok KX Gn (c.fact 23 (f := .free "int") rfl), He.free_ok KX Gn (c.fact 24 (f := .free "abs") rfl), He.free_ok KX Gn (c.fact 25 (f := .free "max") rfl), He.free_ok KX Gn (c.fact 26 (f := .free "min") rfl), He.free_ok KX Gn (c.fact 27 (f := .free "list") rfl), He.free_ok KX Gn (c.fact 28 (f := .free "tuple") rfl), He.free_ok KX Gn (c.fact 29 (f := .free "set") rfl), He.free_ok KX Gn (c.fact 30 (f := .free "all") rfl), He.free_ok KX Gn (c.fact 31 (f := .free "any") rfl), He.free_ok KX Gn (c.fact 32 (f := .free "sum") rfl), He.free_ok KX Gn (c.fact 33 (f := .free "sorted") rfl), He.free_ok KX Gn (c.fact 34 (f := .free "isinstance") rfl), He.free_ok KX Gn (c.fact 35 (f := .free "range") rfl), He.free_ok KX Gn (c.fact 36 (f := .free "enumerate") rfl), He.free_ok KX Gn (c.fact 37 (f := .free "zip") rfl), He.free_ok KX Gn (c.fact 38 (f := .free "str") rfl), He.free_ok KX Gn (c.fact 39 (f := .free "bool") rfl), He.free_ok KX Gn (c.fact 40 (f := .free "dict") rfl), He.free_ok KX Gn (c.fact 41 (f := .free "repr") rfl)⟩
theorem w_is_car {P : Program} {w : World} {K : Fg} {mg : Str → Option Value} {base : Heap} {h : Heap} (c : He.SaysD fa fn K) (KX : K.In h) (Gn : h.Ns mainGlobals mg) (G : Gb mg)  : Fok ⟨K, P, w⟩ mg base 1 "is_car" fn_is_car := by
  have c_LETTERS := He.str_ok KX Gn (c.fact 42 (f := .str "LETTERS" "abcdefghijklmnopqrstuvwxyz") rfl)
  have c_MAX_LETTERS := He.int_ok KX Gn (c.fact 43 (f := .int "MAX_LETTERS" 4) rfl)
  have hm := He.glo_ok KX Gn (c.fact 0 (f := .glo "is_car") rfl)
  obtain ⟨fd, F⟩ := c.def_ 0 (d := dd "is_car" 12) rfl
  have S : FnScope (["value", "letter"] : List Str) ["value"] (dd "is_car" 12).scope := ⟨rfl, rfl, rfl, by decide +kernel, rfl, by decide +kernel, by decide +kernel⟩
  have hnd := S.nd
  have b := F.bindsN (ps := ["value"]) (fun _ _ _ _ _ _ us hl => match us, hl with | [_], _ => rfl)
  have ok : FnOk P w K mg base L2.CX0 1 (He.ga K "is_car") fd ["value"] (spI ⟨K, P, w⟩ fn_is_car) := by
    refine L2.FunD.ok (N := ["value", "letter"]) (k := 0) F S (spI_len rfl) fun cdv A outer s H vs Q E hr hsp => ⟨tS ⟨K, P, w⟩ m_is_car, ?_, body_at (np := 1) (n := 1) rfl rfl hsp⟩
    clear hsp
    unfold m_is_car; first | refine iSs_cons ?_ ?_ | refine iSs_one ?_
    all_goals walk_at "I.S"
  exact ⟨_, fd, ["value"], ok, hm, F.kp, b⟩
theorem w_is_lane {P : Program} {w : World} {K : Fg} {mg : Str → Option Value} {base : Heap} {h : Heap} (c : He.SaysD fa fn K) (KX : K.In h) (Gn : h.Ns mainGlobals mg) (G : Gb mg) (h0 : Fok ⟨K, P, w⟩ mg base 1 "is_car" fn_is_car) : Fok ⟨K, P, w⟩ mg base 2 "is_lane" fn_is_lane := by
  have hm := He.glo_ok KX Gn (c.fact 1 (f := .glo "is_lane") rfl)
  obtain ⟨fd, F⟩ := c.def_ 1 (d := dd "is_lane" 13) rfl
  have S : FnScope (["value", "car"] : List Str) ["value"] (dd "is_lane" 13).scope := ⟨rfl, rfl, rfl, by decide +kernel, rfl, by decide +kernel, by decide +kernel⟩
  have hnd := S.nd
  have b := F.bindsN (ps := ["value"]) (fun _ _ _ _ _ _ us hl => match us, hl with | [_], _ => rfl)
  have ok : FnOk P w K mg base L2.CX0 2 (He.ga K "is_lane") fd ["value"] (spI ⟨K, P, w⟩ fn_is_lane) := by
    refine L2.FunD.ok (N := ["value", "car"]) (k := 1) F S (spI_len rfl) fun cdv A outer s H vs Q E hr hsp => ⟨tS ⟨K, P, w⟩ m_is_lane, ?_, body_at (np := 1) (n := 1) rfl rfl hsp⟩
    clear hsp
    unfold m_is_lane; first | refine iSs_cons ?_ ?_ | refine iSs_one ?_
    all_goals walk_at "I.S"
  exact ⟨_, fd, ["value"], ok, hm, F.kp, b⟩
theorem w_is_side {P : Program} {w : World} {K : Fg} {mg : Str → Option Value} {base : Heap} {h : Heap} (c : He.SaysD fa fn K) (KX : K.In h) (Gn : h.Ns mainGlobals mg) (G : Gb mg)  : Fok ⟨K, P, w⟩ mg base 1 "is_side" fn_is_side := by
  have c_LEFT := He.str_ok KX Gn (c.fact 44 (f := .str "LEFT" "L") rfl)
  have c_RIGHT := He.str_ok KX Gn (c.fact 45 (f := .str "RIGHT" "R") rfl)
  have hm := He.glo_ok KX Gn (c.fact 2 (f := .glo "is_side") rfl)
  obtain ⟨fd, F⟩ := c.def_ 2 (d := dd "is_side" 14) rfl
  have S : FnScope (["value"] : List Str) ["value"] (dd "is_side" 14).scope := ⟨rfl, rfl, rfl, by decide +kernel, rfl, by decide +kernel, by decide +kernel⟩
  have hnd := S.nd
  have b := F.bindsN (ps := ["value"]) (fun _ _ _ _ _ _ us hl => match us, hl with | [_], _ => rfl)
  have ok : FnOk P w K mg base L2.CX0 1 (He.ga K "is_side") fd ["value"] (spI ⟨K, P, w⟩ fn_is_side) := by
    refine L2.FunD.ok (N := ["value"]) (k := 0) F S (spI_len rfl) fun cdv A outer s H vs Q E hr hsp => ⟨tS ⟨K, P, w⟩ m_is_side, ?_, body_at (np := 1) (n := 0) rfl rfl hsp⟩
    clear hsp
    unfold m_is_side; first | refine iSs_cons ?_ ?_ | refine iSs_one ?_
    all_goals walk_at "I.S"
  exact ⟨_, fd, ["value"], ok, hm, F.kp, b⟩
theorem w_is_arrival {P : Program} {w : World} {K : Fg} {mg : Str → Option Value} {base : Heap} {h : Heap} (c : He.SaysD fa fn K) (KX : K.In h) (Gn : h.Ns mainGlobals mg) (G : Gb mg) (h0 : Fok ⟨K, P, w⟩ mg base 1 "is_car" fn_is_car) : Fok ⟨K, P, w⟩ mg base 2 "is_arrival" fn_is_arrival := by
  have c_IN := He.str_ok KX Gn (c.fact 46 (f := .str "IN" "in") rfl)
  have hm := He.glo_ok KX Gn (c.fact 3 (f := .glo "is_arrival") rfl)
  obtain ⟨fd, F⟩ := c.def_ 3 (d := dd "is_arrival" 15) rfl
  have S : FnScope (["value"] : List Str) ["value"] (dd "is_arrival" 15).scope := ⟨rfl, rfl, rfl, by decide +kernel, rfl, by decide +kernel, by decide +kernel⟩
  have hnd := S.nd
  have b := F.bindsN (ps := ["value"]) (fun _ _ _ _ _ _ us hl => match us, hl with | [_], _ => rfl)
  have ok : FnOk P w K mg base L2.CX0 2 (He.ga K "is_arrival") fd ["value"] (spI ⟨K, P, w⟩ fn_is_arrival) := by
    refine L2.FunD.ok (N := ["value"]) (k := 1) F S (spI_len rfl) fun cdv A outer s H vs Q E hr hsp => ⟨tS ⟨K, P, w⟩ m_is_arrival, ?_, body_at (np := 1) (n := 0) rfl rfl hsp⟩
    clear hsp
    unfold m_is_arrival; first | refine iSs_cons ?_ ?_ | refine iSs_one ?_
    all_goals walk_at "I.S"
  exact ⟨_, fd, ["value"], ok, hm, F.kp, b⟩
theorem w_is_departure {P : Program} {w : World} {K : Fg} {mg : Str → Option Value} {base : Heap} {h : Heap} (c : He.SaysD fa fn K) (KX : K.In h) (Gn : h.Ns mainGlobals mg) (G : Gb mg)  : Fok ⟨K, P, w⟩ mg base 1 "is_departure" fn_is_departure := by
  have c_OUT := He.str_ok KX Gn (c.fact 47 (f := .str "OUT" "out") rfl)
  have hm := He.glo_ok KX Gn (c.fact 4 (f := .glo "is_departure") rfl)
  obtain ⟨fd, F⟩ := c.def_ 4 (d := dd "is_departure" 16) rfl
  have S : FnScope (["value"] : List Str) ["value"] (dd "is_departure" 16).scope := ⟨rfl, rfl, rfl, by decide +kernel, rfl, by decide +kernel, by decide +kernel⟩
  have hnd := S.nd
  have b := F.bindsN (ps := ["value"]) (fun _ _ _ _ _ _ us hl => match us, hl with | [_], _ => rfl)
  have ok : FnOk P w K mg base L2.CX0 1 (He.ga K "is_departure") fd ["value"] (spI ⟨K, P, w⟩ fn_is_departure) := by
    refine L2.FunD.ok (N := ["value"]) (k := 0) F S (spI_len rfl) fun cdv A outer s H vs Q E hr hsp => ⟨tS ⟨K, P, w⟩ m_is_departure, ?_, body_at (np := 1) (n := 0) rfl rfl hsp⟩
    clear hsp
    unfold m_is_departure; first | refine iSs_cons ?_ ?_ | refine iSs_one ?_
    all_goals walk_at "I.S"
  exact ⟨_, fd, ["value"], ok, hm, F.kp, b⟩
theorem w_check_lane {P : Program} {w : World} {K : Fg} {mg : Str → Option Value} {base : Heap} {h : Heap} (c : He.SaysD fa fn K) (KX : K.In h) (Gn : h.Ns mainGlobals mg) (G : Gb mg) (h0 : Fok ⟨K, P, w⟩ mg base 2 "is_lane" fn_is_lane) : Fok ⟨K, P, w⟩ mg base 3 "check_lane" fn_check_lane := by
  have hm := He.glo_ok KX Gn (c.fact 5 (f := .glo "check_lane") rfl)
  obtain ⟨fd, F⟩ := c.def_ 5 (d := dd "check_lane" 17) rfl
  have S : FnScope (["value"] : List Str) ["value"] (dd "check_lane" 17).scope := ⟨rfl, rfl, rfl, by decide +kernel, rfl, by decide +kernel, by decide +kernel⟩
  have hnd := S.nd
  have b := F.bindsN (ps := ["value"]) (fun _ _ _ _ _ _ us hl => match us, hl with | [_], _ => rfl)
  have ok : FnOk P w K mg base L2.CX0 3 (He.ga K "check_lane") fd ["value"] (spI ⟨K, P, w⟩ fn_check_lane) := by
    refine L2.FunD.ok (N := ["value"]) (k := 2) F S (spI_len rfl) fun cdv A outer s H vs Q E hr hsp => ⟨tS ⟨K, P, w⟩ m_check_lane, ?_, body_at (np := 1) (n := 0) rfl rfl hsp⟩
    clear hsp
    unfold m_check_lane; first | refine iSs_cons ?_ ?_ | refine iSs_one ?_
    all_goals walk_at "I.S"
  exact ⟨_, fd, ["value"], ok, hm, F.kp, b⟩
theorem w_is_log_for {P : Program} {w : World} {K : Fg} {mg : Str → Option Value} {base : Heap} {h : Heap} (c : He.SaysD fa fn K) (KX : K.In h) (Gn : h.Ns mainGlobals mg) (G : Gb mg) (h0 : Fok ⟨K, P, w⟩ mg base 2 "is_arrival" fn_is_arrival) (h1 : Fok ⟨K, P, w⟩ mg base 1 "is_departure" fn_is_departure) : Fok ⟨K, P, w⟩ mg base 3 "is_log_for" fn_is_log_for := by
  have hm := He.glo_ok KX Gn (c.fact 6 (f := .glo "is_log_for") rfl)
  obtain ⟨fd, F⟩ := c.def_ 6 (d := dd "is_log_for" 18) rfl
  have S : FnScope (["start", "value", "used", "size", "event"] : List Str) ["start", "value"] (dd "is_log_for" 18).scope := ⟨rfl, rfl, rfl, by decide +kernel, rfl, by decide +kernel, by decide +kernel⟩
  have hnd := S.nd
  have b := F.bindsN (ps := ["start", "value"]) (fun _ _ _ _ _ _ us hl => match us, hl with | [_, _], _ => rfl)
  have ok : FnOk P w K mg base L2.CX0 3 (He.ga K "is_log_for") fd ["start", "value"] (spI ⟨K, P, w⟩ fn_is_log_for) := by
    refine L2.FunD.ok (N := ["start", "value", "used", "size", "event"]) (k := 2) F S (spI_len rfl) fun cdv A outer s H vs Q E hr hsp => ⟨tS ⟨K, P, w⟩ m_is_log_for, ?_, body_at (np := 2) (n := 3) rfl rfl hsp⟩
    clear hsp
    unfold m_is_log_for; first | refine iSs_cons ?_ ?_ | refine iSs_one ?_
    all_goals walk_at "I.S"
  exact ⟨_, fd, ["start", "value"], ok, hm, F.kp, b⟩
theorem w_check_log {P : Program} {w : World} {K : Fg} {mg : Str → Option Value} {base : Heap} {h : Heap} (c : He.SaysD fa fn K) (KX : K.In h) (Gn : h.Ns mainGlobals mg) (G : Gb mg) (h0 : Fok ⟨K, P, w⟩ mg base 3 "check_lane" fn_check_lane) (h1 : Fok ⟨K, P, w⟩ mg base 3 "is_log_for" fn_is_log_for) : Fok ⟨K, P, w⟩ mg base 4 "check_log" fn_check_log := by
  have hm := He.glo_ok KX Gn (c.fact 7 (f := .glo "check_log") rfl)
  obtain ⟨fd, F⟩ := c.def_ 7 (d := dd "check_log" 19) rfl
  have S : FnScope (["start", "log"] : List Str) ["start", "log"] (dd "check_log" 19).scope := ⟨rfl, rfl, rfl, by decide +kernel, rfl, by decide +kernel, by decide +kernel⟩
  have hnd := S.nd
  have b := F.bindsN (ps := ["start", "log"]) (fun _ _ _ _ _ _ us hl => match us, hl with | [_, _], _ => rfl)
  have ok : FnOk P w K mg base L2.CX0 4 (He.ga K "check_log") fd ["start", "log"] (spI ⟨K, P, w⟩ fn_check_log) := by
    refine L2.FunD.ok (N := ["start", "log"]) (k := 3) F S (spI_len rfl) fun cdv A outer s H vs Q E hr hsp => ⟨tS ⟨K, P, w⟩ m_check_log, ?_, body_at (np := 2) (n := 0) rfl rfl hsp⟩
    clear hsp
    unfold m_check_log; first | refine iSs_cons ?_ ?_ | refine iSs_one ?_
    all_goals walk_at "I.S"
  exact ⟨_, fd, ["start", "log"], ok, hm, F.kp, b⟩
theorem w_count_sizes {P : Program} {w : World} {K : Fg} {mg : Str → Option Value} {base : Heap} {h : Heap} (c : He.SaysD fa fn K) (KX : K.In h) (Gn : h.Ns mainGlobals mg) (G : Gb mg)  : Fok ⟨K, P, w⟩ mg base 1 "count_sizes" fn_count_sizes := by
  have c_IN := He.str_ok KX Gn (c.fact 46 (f := .str "IN" "in") rfl)
  have hm := He.glo_ok KX Gn (c.fact 8 (f := .glo "count_sizes") rfl)
  obtain ⟨fd, F⟩ := c.def_ 8 (d := dd "count_sizes" 20) rfl
  have S : FnScope (["start", "log", "found", "event"] : List Str) ["start", "log"] (dd "count_sizes" 20).scope := ⟨rfl, rfl, rfl, by decide +kernel, rfl, by decide +kernel, by decide +kernel⟩
  have hnd := S.nd
  have b := F.bindsN (ps := ["start", "log"]) (fun _ _ _ _ _ _ us hl => match us, hl with | [_, _], _ => rfl)
  have ok : FnOk P w K mg base L2.CX0 1 (He.ga K "count_sizes") fd ["start", "log"] (spI ⟨K, P, w⟩ fn_count_sizes) := by
    refine L2.FunD.ok (N := ["start", "log", "found", "event"]) (k := 0) F S (spI_len rfl) fun cdv A outer s H vs Q E hr hsp => ⟨tS ⟨K, P, w⟩ m_count_sizes, ?_, body_at (np := 2) (n := 2) rfl rfl hsp⟩
    clear hsp
    unfold m_count_sizes; first | refine iSs_cons ?_ ?_ | refine iSs_one ?_
    all_goals walk_at "I.S"
  exact ⟨_, fd, ["start", "log"], ok, hm, F.kp, b⟩
theorem w_sizes {P : Program} {w : World} {K : Fg} {mg : Str → Option Value} {base : Heap} {h : Heap} (c : He.SaysD fa fn K) (KX : K.In h) (Gn : h.Ns mainGlobals mg) (G : Gb mg) (h0 : Fok ⟨K, P, w⟩ mg base 4 "check_log" fn_check_log) (h1 : Fok ⟨K, P, w⟩ mg base 1 "count_sizes" fn_count_sizes) : Fok ⟨K, P, w⟩ mg base 5 "sizes" fn_sizes ∧ FokK ⟨K, P, w⟩ mg base 5 "sizes" ["log", "start"] [1, 0] fn_sizes := by
  have hm := He.glo_ok KX Gn (c.fact 9 (f := .glo "sizes") rfl)
  obtain ⟨fd, F⟩ := c.def_ 9 (d := dd "sizes" 21) rfl
  have S : FnScope (["start", "log"] : List Str) ["start", "log"] (dd "sizes" 21).scope := ⟨rfl, rfl, rfl, by decide +kernel, rfl, by decide +kernel, by decide +kernel⟩
  have hnd := S.nd
  have b := F.bindsN (ps := ["start", "log"]) (fun _ _ _ _ _ _ us hl => match us, hl with | [_, _], _ => rfl)
  have ok : FnOk P w K mg base L2.CX0 5 (He.ga K "sizes") fd ["start", "log"] (spI ⟨K, P, w⟩ fn_sizes) := by
    refine L2.FunD.ok (N := ["start", "log"]) (k := 4) F S (spI_len rfl) fun cdv A outer s H vs Q E hr hsp => ⟨tS ⟨K, P, w⟩ m_sizes, ?_, body_at (np := 2) (n := 0) rfl rfl hsp⟩
    clear hsp
    unfold m_sizes; first | refine iSs_cons ?_ ?_ | refine iSs_one ?_
    all_goals walk_at "I.S"
  exact ⟨⟨_, fd, ["start", "log"], ok, hm, F.kp, b⟩, ⟨_, fd, ["start", "log"], ok, hm, F.kp, kbn F (fun _ _ _ _ _ _ ws hl => match ws, hl with | [_, _], _ => rfl)⟩⟩
theorem w_car_numbers {P : Program} {w : World} {K : Fg} {mg : Str → Option Value} {base : Heap} {h : Heap} (c : He.SaysD fa fn K) (KX : K.In h) (Gn : h.Ns mainGlobals mg) (G : Gb mg)  : Fok ⟨K, P, w⟩ mg base 1 "car_numbers" fn_car_numbers := by
  have c_IN := He.str_ok KX Gn (c.fact 46 (f := .str "IN" "in") rfl)
  have hm := He.glo_ok KX Gn (c.fact 10 (f := .glo "car_numbers") rfl)
  obtain ⟨fd, F⟩ := c.def_ 10 (d := dd "car_numbers" 22) rfl
  have S : FnScope (["start", "log", "cars", "number", "car", "event"] : List Str) ["start", "log"] (dd "car_numbers" 22).scope := ⟨rfl, rfl, rfl, by decide +kernel, rfl, by decide +kernel, by decide +kernel⟩
  have hnd := S.nd
  have b := F.bindsN (ps := ["start", "log"]) (fun _ _ _ _ _ _ us hl => match us, hl with | [_, _], _ => rfl)
  have ok : FnOk P w K mg base L2.CX0 1 (He.ga K "car_numbers") fd ["start", "log"] (spI ⟨K, P, w⟩ fn_car_numbers) := by
    refine L2.FunD.ok (N := ["start", "log", "cars", "number", "car", "event"]) (k := 0) F S (spI_len rfl) fun cdv A outer s H vs Q E hr hsp => ⟨tS ⟨K, P, w⟩ m_car_numbers, ?_, body_at (np := 2) (n := 4) rfl rfl hsp⟩
    clear hsp
    unfold m_car_numbers; first | refine iSs_cons ?_ ?_ | refine iSs_one ?_
    all_goals walk_at "I.S"
  exact ⟨_, fd, ["start", "log"], ok, hm, F.kp, b⟩
theorem w_numbers {P : Program} {w : World} {K : Fg} {mg : Str → Option Value} {base : Heap} {h : Heap} (c : He.SaysD fa fn K) (KX : K.In h) (Gn : h.Ns mainGlobals mg) (G : Gb mg) (h0 : Fok ⟨K, P, w⟩ mg base 4 "check_log" fn_check_log) (h1 : Fok ⟨K, P, w⟩ mg base 1 "car_numbers" fn_car_numbers) : Fok ⟨K, P, w⟩ mg base 5 "numbers" fn_numbers ∧ FokK ⟨K, P, w⟩ mg base 5 "numbers" ["log", "start"] [1, 0] fn_numbers := by
  have hm := He.glo_ok KX Gn (c.fact 11 (f := .glo "numbers") rfl)
  obtain ⟨fd, F⟩ := c.def_ 11 (d := dd "numbers" 23) rfl
  have S : FnScope (["start", "log"] : List Str) ["start", "log"] (dd "numbers" 23).scope := ⟨rfl, rfl, rfl, by decide +kernel, rfl, by decide +kernel, by decide +kernel⟩
  have hnd := S.nd
  have b := F.bindsN (ps := ["start", "log"]) (fun _ _ _ _ _ _ us hl => match us, hl with | [_, _], _ => rfl)
  have ok : FnOk P w K mg base L2.CX0 5 (He.ga K "numbers") fd ["start", "log"] (spI ⟨K, P, w⟩ fn_numbers) := by
    refine L2.FunD.ok (N := ["start", "log"]) (k := 4) F S (spI_len rfl) fun cdv A outer s H vs Q E hr hsp => ⟨tS ⟨K, P, w⟩ m_numbers, ?_, body_at (np := 2) (n := 0) rfl rfl hsp⟩
    clear hsp
    unfold m_numbers; first | refine iSs_cons ?_ ?_ | refine iSs_one ?_
    all_goals walk_at "I.S"
  exact ⟨⟨_, fd, ["start", "log"], ok, hm, F.kp, b⟩, ⟨_, fd, ["start", "log"], ok, hm, F.kp, kbn F (fun _ _ _ _ _ _ ws hl => match ws, hl with | [_, _], _ => rfl)⟩⟩
theorem w_replayed {P : Program} {w : World} {K : Fg} {mg : Str → Option Value} {base : Heap} {h : Heap} (c : He.SaysD fa fn K) (KX : K.In h) (Gn : h.Ns mainGlobals mg) (G : Gb mg)  : Fok ⟨K, P, w⟩ mg base 1 "replayed" fn_replayed := by
  have c_LEFT := He.str_ok KX Gn (c.fact 44 (f := .str "LEFT" "L") rfl)
  have c_IN := He.str_ok KX Gn (c.fact 46 (f := .str "IN" "in") rfl)
  have hm := He.glo_ok KX Gn (c.fact 12 (f := .glo "replayed") rfl)
  obtain ⟨fd, F⟩ := c.def_ 12 (d := dd "replayed" 24) rfl
  have S : FnScope (["start", "log", "sides", "lane", "departed", "event", "side"] : List Str) ["start", "log", "sides"] (dd "replayed" 24).scope := ⟨rfl, rfl, rfl, by decide +kernel, rfl, by decide +kernel, by decide +kernel⟩
  have hnd := S.nd
  have b := F.bindsN (ps := ["start", "log", "sides"]) (fun _ _ _ _ _ _ us hl => match us, hl with | [_, _, _], _ => rfl)
  have ok : FnOk P w K mg base L2.CX0 1 (He.ga K "replayed") fd ["start", "log", "sides"] (spI ⟨K, P, w⟩ fn_replayed) := by
    refine L2.FunD.ok (N := ["start", "log", "sides", "lane", "departed", "event", "side"]) (k := 0) F S (spI_len rfl) fun cdv A outer s H vs Q E hr hsp => ⟨tS ⟨K, P, w⟩ m_replayed, ?_, body_at (np := 3) (n := 4) rfl rfl hsp⟩
    clear hsp
    unfold m_replayed; first | refine iSs_cons ?_ ?_ | refine iSs_one ?_
    all_goals walk_at "I.S"
  exact ⟨_, fd, ["start", "log", "sides"], ok, hm, F.kp, b⟩
theorem w_replay {P : Program} {w : World} {K : Fg} {mg : Str → Option Value} {base : Heap} {h : Heap} (c : He.SaysD fa fn K) (KX : K.In h) (Gn : h.Ns mainGlobals mg) (G : Gb mg) (h0 : Fok ⟨K, P, w⟩ mg base 4 "check_log" fn_check_log) (h1 : Fok ⟨K, P, w⟩ mg base 1 "replayed" fn_replayed) (h2 : Fok ⟨K, P, w⟩ mg base 1 "is_side" fn_is_side) : Fok ⟨K, P, w⟩ mg base 5 "replay" fn_replay ∧ FokK ⟨K, P, w⟩ mg base 5 "replay" ["sides", "log", "start"] [2, 1, 0] fn_replay := by
  have hm := He.glo_ok KX Gn (c.fact 13 (f := .glo "replay") rfl)
  obtain ⟨fd, F⟩ := c.def_ 13 (d := dd "replay" 25) rfl
  have S : FnScope (["start", "log", "sides", "side"] : List Str) ["start", "log", "sides"] (dd "replay" 25).scope := ⟨rfl, rfl, rfl, by decide +kernel, rfl, by decide +kernel, by decide +kernel⟩
  have hnd := S.nd
  have b := F.bindsN (ps := ["start", "log", "sides"]) (fun _ _ _ _ _ _ us hl => match us, hl with | [_, _, _], _ => rfl)
  have ok : FnOk P w K mg base L2.CX0 5 (He.ga K "replay") fd ["start", "log", "sides"] (spI ⟨K, P, w⟩ fn_replay) := by
    refine L2.FunD.ok (N := ["start", "log", "sides", "side"]) (k := 4) F S (spI_len rfl) fun cdv A outer s H vs Q E hr hsp => ⟨tS ⟨K, P, w⟩ m_replay, ?_, body_at (np := 3) (n := 1) rfl rfl hsp⟩
    clear hsp
    unfold m_replay; first | refine iSs_cons ?_ ?_ | refine iSs_one ?_
    all_goals walk_at "I.S"
  exact ⟨⟨_, fd, ["start", "log", "sides"], ok, hm, F.kp, b⟩, ⟨_, fd, ["start", "log", "sides"], ok, hm, F.kp, kbn F (fun _ _ _ _ _ _ ws hl => match ws, hl with | [_, _, _], _ => rfl)⟩⟩
theorem w__law_source {P : Program} {w : World} {K : Fg} {mg : Str → Option Value} {base : Heap} {h : Heap} (c : He.SaysD fa fn K) (KX : K.In h) (Gn : h.Ns mainGlobals mg) (G : Gb mg)  : Fok ⟨K, P, w⟩ mg base 1 "_law_source" fn__law_source := by
  have hm := He.glo_ok KX Gn (c.fact 14 (f := .glo "_law_source") rfl)
  obtain ⟨fd, F⟩ := c.def_ 14 (d := dd "_law_source" 27) rfl
  have S : FnScope (["script", "k", "cell"] : List Str) ["script", "k"] (dd "_law_source" 27).scope := ⟨rfl, rfl, rfl, by decide +kernel, rfl, by decide +kernel, by decide +kernel⟩
  have hnd := S.nd
  have b := F.bindsN (ps := ["script", "k"]) (fun _ _ _ _ _ _ us hl => match us, hl with | [_, _], _ => rfl)
  have ok : FnOk P w K mg base L2.CX0 1 (He.ga K "_law_source") fd ["script", "k"] (spI ⟨K, P, w⟩ fn__law_source) := by
    refine L2.FunD.ok (N := ["script", "k", "cell"]) (k := 0) F S (spI_len rfl) fun cdv A outer s H vs Q E hr hsp => ⟨tS ⟨K, P, w⟩ m__law_source, ?_, body_at (np := 2) (n := 1) rfl rfl hsp⟩
    clear hsp
    unfold m__law_source; first | refine iSs_cons ?_ ?_ | refine iSs_one ?_
    all_goals walk_at "I.S"
  exact ⟨_, fd, ["script", "k"], ok, hm, F.kp, b⟩
theorem w__law_draw {P : Program} {w : World} {K : Fg} {mg : Str → Option Value} {base : Heap} {h : Heap} (c : He.SaysD fa fn K) (KX : K.In h) (Gn : h.Ns mainGlobals mg) (G : Gb mg)  : Fok ⟨K, P, w⟩ mg base 1 "_law_draw" fn__law_draw := by
  have hm := He.glo_ok KX Gn (c.fact 15 (f := .glo "_law_draw") rfl)
  obtain ⟨fd, F⟩ := c.def_ 15 (d := dd "_law_draw" 28) rfl
  have S : FnScope (["source", "limit", "mixed", "found"] : List Str) ["source", "limit"] (dd "_law_draw" 28).scope := ⟨rfl, rfl, rfl, by decide +kernel, rfl, by decide +kernel, by decide +kernel⟩
  have hnd := S.nd
  have b := F.bindsN (ps := ["source", "limit"]) (fun _ _ _ _ _ _ us hl => match us, hl with | [_, _], _ => rfl)
  have ok : FnOk P w K mg base L2.CX0 1 (He.ga K "_law_draw") fd ["source", "limit"] (spI ⟨K, P, w⟩ fn__law_draw) := by
    refine L2.FunD.ok (N := ["source", "limit", "mixed", "found"]) (k := 0) F S (spI_len rfl) fun cdv A outer s H vs Q E hr hsp => ⟨tS ⟨K, P, w⟩ m__law_draw, ?_, body_at (np := 2) (n := 2) rfl rfl hsp⟩
    clear hsp
    unfold m__law_draw; first | refine iSs_cons ?_ ?_ | refine iSs_one ?_
    all_goals walk_at "I.S"
  exact ⟨_, fd, ["source", "limit"], ok, hm, F.kp, b⟩
theorem w__law_mixed {P : Program} {w : World} {K : Fg} {mg : Str → Option Value} {base : Heap} {h : Heap} (c : He.SaysD fa fn K) (KX : K.In h) (Gn : h.Ns mainGlobals mg) (G : Gb mg) (h0 : Fok ⟨K, P, w⟩ mg base 1 "_law_draw" fn__law_draw) : Fok ⟨K, P, w⟩ mg base 2 "_law_mixed" fn__law_mixed := by
  have hm := He.glo_ok KX Gn (c.fact 16 (f := .glo "_law_mixed") rfl)
  obtain ⟨fd, F⟩ := c.def_ 16 (d := dd "_law_mixed" 29) rfl
  have S : FnScope (["source", "things", "spare", "k"] : List Str) ["source", "things"] (dd "_law_mixed" 29).scope := ⟨rfl, rfl, rfl, by decide +kernel, rfl, by decide +kernel, by decide +kernel⟩
  have hnd := S.nd
  have b := F.bindsN (ps := ["source", "things"]) (fun _ _ _ _ _ _ us hl => match us, hl with | [_, _], _ => rfl)
  have ok : FnOk P w K mg base L2.CX0 2 (He.ga K "_law_mixed") fd ["source", "things"] (spI ⟨K, P, w⟩ fn__law_mixed) := by
    refine L2.FunD.ok (N := ["source", "things", "spare", "k"]) (k := 1) F S (spI_len rfl) fun cdv A outer s H vs Q E hr hsp => ⟨tS ⟨K, P, w⟩ m__law_mixed, ?_, body_at (np := 2) (n := 2) rfl rfl hsp⟩
    clear hsp
    unfold m__law_mixed; first | refine iSs_cons ?_ ?_ | refine iSs_one ?_
    all_goals walk_at "I.S"
  exact ⟨_, fd, ["source", "things"], ok, hm, F.kp, b⟩
theorem w__law_vehicles {P : Program} {w : World} {K : Fg} {mg : Str → Option Value} {base : Heap} {h : Heap} (c : He.SaysD fa fn K) (KX : K.In h) (Gn : h.Ns mainGlobals mg) (G : Gb mg) (h0 : Fok ⟨K, P, w⟩ mg base 1 "_law_draw" fn__law_draw) (h1 : Fok ⟨K, P, w⟩ mg base 2 "_law_mixed" fn__law_mixed) : Fok ⟨K, P, w⟩ mg base 3 "_law_vehicles" fn__law_vehicles := by
  have hm := He.glo_ok KX Gn (c.fact 17 (f := .glo "_law_vehicles") rfl)
  obtain ⟨fd, F⟩ := c.def_ 17 (d := dd "_law_vehicles" 30) rfl
  have S : FnScope (["source", "count", "letters", "found", "style", "k", "name"] : List Str) ["source", "count"] (dd "_law_vehicles" 30).scope := ⟨rfl, rfl, rfl, by decide +kernel, rfl, by decide +kernel, by decide +kernel⟩
  have hnd := S.nd
  have b := F.bindsN (ps := ["source", "count"]) (fun _ _ _ _ _ _ us hl => match us, hl with | [_, _], _ => rfl)
  have ok : FnOk P w K mg base L2.CX0 3 (He.ga K "_law_vehicles") fd ["source", "count"] (spI ⟨K, P, w⟩ fn__law_vehicles) := by
    refine L2.FunD.ok (N := ["source", "count", "letters", "found", "style", "k", "name"]) (k := 2) F S (spI_len rfl) fun cdv A outer s H vs Q E hr hsp => ⟨tS ⟨K, P, w⟩ m__law_vehicles, ?_, body_at (np := 2) (n := 5) rfl rfl hsp⟩
    clear hsp
    unfold m__law_vehicles; first | refine iSs_cons ?_ ?_ | refine iSs_one ?_
    all_goals walk_at "I.S"
  exact ⟨_, fd, ["source", "count"], ok, hm, F.kp, b⟩
theorem w__law_happened {P : Program} {w : World} {K : Fg} {mg : Str → Option Value} {base : Heap} {h : Heap} (c : He.SaysD fa fn K) (KX : K.In h) (Gn : h.Ns mainGlobals mg) (G : Gb mg) (h0 : Fok ⟨K, P, w⟩ mg base 1 "_law_draw" fn__law_draw) : Fok ⟨K, P, w⟩ mg base 2 "_law_happened" fn__law_happened := by
  have hm := He.glo_ok KX Gn (c.fact 18 (f := .glo "_law_happened") rfl)
  obtain ⟨fd, F⟩ := c.def_ 18 (d := dd "_law_happened" 31) rfl
  have S : FnScope (["source", "present", "spare", "most", "found", "left", "lean", "k", "arrives"] : List Str) ["source", "present", "spare", "most"] (dd "_law_happened" 31).scope := ⟨rfl, rfl, rfl, by decide +kernel, rfl, by decide +kernel, by decide +kernel⟩
  have hnd := S.nd
  have b := F.bindsN (ps := ["source", "present", "spare", "most"]) (fun _ _ _ _ _ _ us hl => match us, hl with | [_, _, _, _], _ => rfl)
  have ok : FnOk P w K mg base L2.CX0 2 (He.ga K "_law_happened") fd ["source", "present", "spare", "most"] (spI ⟨K, P, w⟩ fn__law_happened) := by
    refine L2.FunD.ok (N := ["source", "present", "spare", "most", "found", "left", "lean", "k", "arrives"]) (k := 1) F S (spI_len rfl) fun cdv A outer s H vs Q E hr hsp => ⟨tS ⟨K, P, w⟩ m__law_happened, ?_, body_at (np := 4) (n := 5) rfl rfl hsp⟩
    clear hsp
    unfold m__law_happened; first | refine iSs_cons ?_ ?_ | refine iSs_one ?_
    all_goals walk_at "I.S"
  exact ⟨_, fd, ["source", "present", "spare", "most"], ok, hm, F.kp, b⟩
theorem w__law_rows {P : Program} {w : World} {K : Fg} {mg : Str → Option Value} {base : Heap} {h : Heap} (c : He.SaysD fa fn K) (KX : K.In h) (Gn : h.Ns mainGlobals mg) (G : Gb mg)  : Fok ⟨K, P, w⟩ mg base 1 "_law_rows" fn__law_rows := by
  have hm := He.glo_ok KX Gn (c.fact 19 (f := .glo "_law_rows") rfl)
  obtain ⟨fd, F⟩ := c.def_ 19 (d := dd "_law_rows" 32) rfl
  have S : FnScope (["initial", "happened", "moves", "rows", "gone", "event", "move", "here"] : List Str) ["initial", "happened", "moves"] (dd "_law_rows" 32).scope := ⟨rfl, rfl, rfl, by decide +kernel, rfl, by decide +kernel, by decide +kernel⟩
  have hnd := S.nd
  have b := F.bindsN (ps := ["initial", "happened", "moves"]) (fun _ _ _ _ _ _ us hl => match us, hl with | [_, _, _], _ => rfl)
  have ok : FnOk P w K mg base L2.CX0 1 (He.ga K "_law_rows") fd ["initial", "happened", "moves"] (spI ⟨K, P, w⟩ fn__law_rows) := by
    refine L2.FunD.ok (N := ["initial", "happened", "moves", "rows", "gone", "event", "move", "here"]) (k := 0) F S (spI_len rfl) fun cdv A outer s H vs Q E hr hsp => ⟨tS ⟨K, P, w⟩ m__law_rows, ?_, body_at (np := 3) (n := 5) rfl rfl hsp⟩
    clear hsp
    unfold m__law_rows; first | refine iSs_cons ?_ ?_ | refine iSs_one ?_
    all_goals walk_at "I.S"
  exact ⟨_, fd, ["initial", "happened", "moves"], ok, hm, F.kp, b⟩
theorem w__law_right {P : Program} {w : World} {K : Fg} {mg : Str → Option Value} {base : Heap} {h : Heap} (c : He.SaysD fa fn K) (KX : K.In h) (Gn : h.Ns mainGlobals mg) (G : Gb mg) (h0 : Fok ⟨K, P, w⟩ mg base 1 "_law_rows" fn__law_rows) (h1 : Fok ⟨K, P, w⟩ mg base 5 "sizes" fn_sizes) (h2 : Fok ⟨K, P, w⟩ mg base 5 "numbers" fn_numbers) (h3 : Fok ⟨K, P, w⟩ mg base 5 "replay" fn_replay) (k1_0 : FokK ⟨K, P, w⟩ mg base 5 "sizes" ["log", "start"] [1, 0] fn_sizes) (k2_0 : FokK ⟨K, P, w⟩ mg base 5 "numbers" ["log", "start"] [1, 0] fn_numbers) (k3_0 : FokK ⟨K, P, w⟩ mg base 5 "replay" ["sides", "log", "start"] [2, 1, 0] fn_replay) : FokG ⟨K, P, w⟩ mg base 6 "_law_right" fn__law_right := by
  have hm := He.glo_ok KX Gn (c.fact 20 (f := .glo "_law_right") rfl)
  obtain ⟨fd, F⟩ := c.def_ 20 (d := dd "_law_right" 33) rfl
  have S : FnScope (["initial", "happened", "moves", "shown", "counts", "order", "turn", "told", "rows", "gone", "here", "event"] : List Str) ["initial", "happened", "moves"] (dd "_law_right" 33).scope := ⟨rfl, rfl, rfl, by decide +kernel, rfl, by decide +kernel, by decide +kernel⟩
  have hnd := S.nd
  have b := F.bindsN (ps := ["initial", "happened", "moves"]) (fun _ _ _ _ _ _ us hl => match us, hl with | [_, _, _], _ => rfl)
  have ok : FnG P w K mg base L2.CX0 6 (He.ga K "_law_right") fd ["initial", "happened", "moves"] (spI ⟨K, P, w⟩ fn__law_right) := by
    refine okG (N := ["initial", "happened", "moves", "shown", "counts", "order", "turn", "told", "rows", "gone", "here", "event"]) (k := 5) F S (spI_len rfl) fun cdv A outer s H vs Q E hg hr hsp => ⟨tS ⟨K, P, w⟩ m__law_right, ?_, body_at (np := 3) (n := 9) rfl rfl hsp⟩
    clear hsp
    unfold m__law_right; first | refine iSs_cons ?_ ?_ | refine iSs_one ?_
    all_goals walk_at "I.S"
  exact ⟨_, fd, ["initial", "happened", "moves"], ok, hm, F.kp, b⟩
theorem wl_law {P : Program} {w : World} {K : Fg} {mg : Str → Option Value} {base : Heap} {h : Heap} {fd : FuncData} (c : He.SaysD fa fn K) (KX : K.In h) (Gn : h.Ns mainGlobals mg) (G : Gb mg) (F : FunD K (dd "law" 34).name (dd "law" 34).qual (dd "law" 34).params (dd "law" 34).body (dd "law" 34).scope [] [] (He.ga K "law") fd) (S : FnScope (["script", "k", "source", "turn", "fleet", "initial", "happened", "moves", "cut", "event"] : List Str) ["script"] (dd "law" 34).scope) (h0 : Fok ⟨K, P, w⟩ mg base 1 "_law_source" fn__law_source) (h1 : Fok ⟨K, P, w⟩ mg base 3 "_law_vehicles" fn__law_vehicles) (h2 : Fok ⟨K, P, w⟩ mg base 2 "_law_happened" fn__law_happened) (h3 : Fok ⟨K, P, w⟩ mg base 1 "_law_draw" fn__law_draw) (h4 : FokG ⟨K, P, w⟩ mg base 6 "_law_right" fn__law_right) : FnG P w K mg base L2.CX0 7 (He.ga K "law") fd ["script"] (spI ⟨K, P, w⟩ fn_law) := by
  have hnd := S.nd
  refine okG (N := ["script", "k", "source", "turn", "fleet", "initial", "happened", "moves", "cut", "event"]) (k := 6) F S (spI_len rfl) fun cdv A outer s H vs Q E hg hr hsp => ⟨tS ⟨K, P, w⟩ m_law, ?_, body_at (np := 1) (n := 9) rfl rfl hsp⟩
  clear hsp
  unfold m_law; first | refine iSs_cons ?_ ?_ | refine iSs_one ?_
  all_goals walk_at "I.S"
end Ol
set_option Elab.async false
set_option linter.all false
set_option maxRecDepth 100000
set_option maxHeartbeats 4000000
/-! own: lemmas by which the language is run on symbolic data -/
namespace Ol
open PySem PySem.Spec PyProof.Rows L2
/-! what each form does, once its parts are known -/
section
variable {env e1 e2 : Env} {a b : ME} {x y : PV} {r t : RV} {f : RV → RV → Option PV} {p : PV}
theorem q_seq {s t : MS} {e : Env} (h : s env = some (.nx e)) : mSeq s t env = t e := by unfold mSeq; rw [h]; rfl
theorem q_seqR {s t : MS} {v : PV} {e : Env} (h : s env = some (.ret v e)) : mSeq s t env = some (.ret v e) := by unfold mSeq; rw [h]; rfl
theorem q_for {g : MG} {it : MI} {body : MS} {ds : List D} {e : Env} (h : it env = some (ds, e)) : mFor g it body env = forL g body ds e := by unfold mFor; rw [h]; rfl
/-- a loop that runs to its end: the state behind i turns -/
theorem forL_run {g : MG} {body : MS} {α : Type} (c : α → D) (I : List α → Env) : ∀ (xs done : List α), (∀ (d : List α) (x : α) (r : List α), done ++ xs = d ++ x :: r → (g (.d (c x)) (I d)).bind body = some (.nx (I (d ++ [x])))) → forL g body (xs.map c) (I done) = some (.nx (I (done ++ xs)))
  | [], done, _ => by rw [List.append_nil]; rfl
  | x :: r, done, h => by
    have h1 := h done x r rfl
    rw [List.map_cons]
    unfold forL
    cases z : g (.d (c x)) (I done) with
    | none => rw [z] at h1; cases h1
    | some e1 =>
      rw [z] at h1
      have h2 : body e1 = some (.nx (I (done ++ [x]))) := h1
      show (body e1).bind _ = _
      rw [h2]
      show forL g body (r.map c) (I (done ++ [x])) = _
      rw [forL_run c I r (done ++ [x]) (fun d y s hd => h d y s (by rw [← hd]; simp))]
      simp
end
/-- a list comprehension whose parts leave the slots as they are -/
theorem compL_pure {own : List Nat} {g : MG} {c : MT} {elt : ME} {e : Env} {α : Type} (k : α → D) (te : α → Env) (pb : α → Bool) (fd : α → D) : ∀ (xs : List α) (acc : List D), (∀ x ∈ xs, g (.d (k x)) e = some (te x)) → (∀ x ∈ xs, c (te x) = some (pb x, te x)) →
    (∀ x ∈ xs, pb x = true → (elt (te x)).bind (fun y => (fz y.1).bind fun d => some (d, wipeE y.2 own)) = some (fd x, e)) → (∀ x ∈ xs, pb x = false → wipeE (te x) own = e) → acc.length + xs.length ≤ 100000 → compL own g c elt (xs.map k) e acc = some (acc ++ (xs.filter pb).map fd, e)
  | [], acc, _, _, _, _, _ => by simp [compL]
  | x :: r, acc, h1, h2, h3, h4, hl => by
    have m1 : x ∈ x :: r := List.mem_cons_self
    have rest : ∀ acc : List D, acc.length + r.length ≤ 100000 → compL own g c elt (r.map k) e acc = some (acc ++ (r.filter pb).map fd, e) := fun acc hl => compL_pure k te pb fd r acc (fun y hy => h1 y (List.mem_cons_of_mem _ hy)) (fun y hy => h2 y (List.mem_cons_of_mem _ hy)) (fun y hy => h3 y (List.mem_cons_of_mem _ hy)) (fun y hy => h4 y (List.mem_cons_of_mem _ hy)) hl
    rw [List.map_cons]
    unfold compL
    rw [h1 x m1]
    show (c (te x)).bind _ = _
    rw [h2 x m1]
    simp only [Option.bind_some]
    rw [List.length_cons] at hl
    cases q : pb x with
    | false =>
      rw [if_neg (by simp), h4 x m1 q, rest acc (by omega)]
      simp [q]
    | true =>
      rw [if_pos rfl]
      have w := h3 x m1 q
      cases z : elt (te x) with
      | none => rw [z] at w; cases w
      | some y =>
        rw [z] at w
        simp only [Option.bind_some] at w ⊢
        cases z2 : fz y.1 with
        | none => rw [z2] at w; cases w
        | some d =>
          rw [z2] at w
          simp only [Option.bind_some, Option.some.injEq, Prod.mk.injEq] at w ⊢
          obtain ⟨w1, w2⟩ := w
          subst w1
          rw [if_pos (by omega), w2, rest _ (by simp; omega)]
          simp [q]
end Ol
set_option Elab.async false
set_option linter.all false
set_option maxRecDepth 100000
set_option maxHeartbeats 4000000
/-! own: the set of equations by which the language is run; lanes, events, logs as data -/
namespace Ol
open PySem PySem.Spec PyProof.Rows L2
abbrev sD (l : List Str) : D := .tuple (l.map .str)
abbrev Ev := Option Str
def ev : Ev → D
  | none => .tuple [.str "out"]
  | some c => .tuple [.str "in", .str c]
abbrev lg (es : List Ev) : D := .list (es.map ev)
@[simp] theorem shS (x : Str) : SeqAt.shaped (.str x) = PyData.strOk x := by
  simp [SeqAt.shaped, PyData.canLay0, PyData.depth]
@[simp] theorem shI (x : Int) : SeqAt.shaped (.int x) = true := by simp [SeqAt.shaped, PyData.canLay0, PyData.depth]
@[simp] theorem shB (x : Bool) : SeqAt.shaped (.bool x) = true := by simp [SeqAt.shaped, PyData.canLay0, PyData.depth]
@[simp] theorem shN : SeqAt.shaped .none = true := by simp [SeqAt.shaped, PyData.canLay0, PyData.depth]
@[simp] theorem ok_in : PyData.strOk ("in" : Str) = true := by decide +kernel
@[simp] theorem ok_out : PyData.strOk ("out" : Str) = true := by decide +kernel
@[simp] theorem in_out : (("in" : Str) == ("out" : Str)) = false := by decide
@[simp] theorem out_in : (("out" : Str) == ("in" : Str)) = false := by decide
@[simp] theorem in_out' : ¬ ("in" : Str) = ("out" : Str) := by decide
@[simp] theorem out_in' : ¬ ("out" : Str) = ("in" : Str) := by decide
@[simp] theorem eqv_s (x y : Str) : PyData.eqv (.str x) (.str y) = (x == y) := by simp [PyData.eqv]
@[simp] theorem eqv_i (x y : Int) : PyData.eqv (.int x) (.int y) = (x == y) := by simp [PyData.eqv]
@[simp] theorem eqv_b (x y : Bool) : PyData.eqv (.bool x) (.bool y) = (x == y) := by simp [PyData.eqv]
theorem ix_last (ds : List D) (d : D) : oIx (.d (.list (ds ++ [d]))) (.d (.int (-1))) = some (.d d) := by
  simp only [oIx, atI_last]; rfl
theorem ix_nat (ds : List D) (i : Nat) (d : D) (h : ds[i]? = some d) : oIx (.d (.list ds)) (.d (.int (i : Nat))) = some (.d d) := by
  simp only [oIx, atI_nat h]; rfl
theorem ix_natT (ds : List D) (i : Nat) (d : D) (h : ds[i]? = some d) : oIx (.d (.tuple ds)) (.d (.int (i : Nat))) = some (.d d) := by
  simp only [oIx, atI_nat h]; rfl
@[simp] theorem ix_list0 (d : D) (ds : List D) : oIx (.d (.list (d :: ds))) (.d (.int 0)) = some (.d d) := ix_nat (d :: ds) 0 d rfl
@[simp] theorem ix_tup0 (d : D) (ds : List D) : oIx (.d (.tuple (d :: ds))) (.d (.int 0)) = some (.d d) := ix_natT (d :: ds) 0 d rfl
@[simp] theorem ix_tup1 (d d' : D) (ds : List D) : oIx (.d (.tuple (d :: d' :: ds))) (.d (.int 1)) = some (.d d') := ix_natT (d :: d' :: ds) 1 d' rfl
@[simp] theorem ix_list1 (d d' : D) (ds : List D) : oIx (.d (.list (d :: d' :: ds))) (.d (.int 1)) = some (.d d') := ix_nat (d :: d' :: ds) 1 d' rfl
@[simp] theorem ix_list2 (d d' d'' : D) (ds : List D) : oIx (.d (.list (d :: d' :: d'' :: ds))) (.d (.int 2)) = some (.d d'') := ix_nat (d :: d' :: d'' :: ds) 2 d'' rfl
/-! sizes -/
def dl : Ev → Int
  | none => -1
  | some _ => 1
def endN (n : Int) (es : List Ev) : Int := es.foldl (fun a e => a + dl e) n
def szs (n : Int) : List Ev → List Int
  | [] => [n]
  | e :: r => n :: szs (n + dl e) r
theorem szs_snoc : ∀ (es : List Ev) (n : Int) (x : Ev), szs n (es ++ [x]) = szs n es ++ [endN n (es ++ [x])]
  | [], n, x => rfl
  | e :: r, n, x => by
    show n :: szs (n + dl e) (r ++ [x]) = n :: (szs (n + dl e) r ++ [endN n (e :: r ++ [x])])
    rw [szs_snoc r]
    rfl
theorem szs_last (n : Int) (es : List Ev) : ∃ pre, szs n es = pre ++ [endN n es] := by
  rcases List.eq_nil_or_concat es with h | ⟨r, x, h⟩
  · subst h; exact ⟨[], rfl⟩
  · subst h; exact ⟨szs n r, by rw [List.concat_eq_append]; exact szs_snoc r n x⟩
theorem endN_snoc (n : Int) (es : List Ev) (x : Ev) : endN n (es ++ [x]) = endN n es + dl x := by simp [endN]
theorem szs_len : ∀ (es : List Ev) (n : Int), (szs n es).length = es.length + 1
  | [], _ => rfl
  | e :: r, n => congrArg Nat.succ (szs_len r _)
theorem szs_get : ∀ (es : List Ev) (n : Int) (i : Nat), i ≤ es.length → (szs n es)[i]? = some (endN n (es.take i))
  | [], n, i, h => by
    have : i = 0 := by simpa using h
    subst this; rfl
  | e :: r, n, 0, h => rfl
  | e :: r, n, i + 1, h => by
    have z := szs_get r (n + dl e) i (by simpa using h)
    simpa [szs, endN] using z
end Ol
set_option Elab.async false
set_option linter.all false
set_option maxRecDepth 100000
set_option maxHeartbeats 4000000
/-! own: comprehensions and calls, run -/
namespace Ol
open PySem PySem.Spec PyProof.Rows L2
theorem comp_pure {own : List (Str × Nat)} {g : MG} {it : MI} {c : MT} {elt : ME} {env env1 e : Env} {α : Type} (k : α → D) (xs : List α) (te : α → Env) (pb : α → Bool) (fd : α → D) (hit : it env = some (xs.map k, env1)) (he : wipeE env1 (own.map (·.2)) = e) (hr : restE env1 e (own.map (·.2)) = env1)
    (h1 : ∀ x ∈ xs, g (.d (k x)) e = some (te x)) (h2 : ∀ x ∈ xs, c (te x) = some (pb x, te x)) (h3 : ∀ x ∈ xs, pb x = true → (elt (te x)).bind (fun y => (fz y.1).bind fun d => some (d, wipeE y.2 (own.map (·.2)))) = some (fd x, e)) (h4 : ∀ x ∈ xs, pb x = false → wipeE (te x) (own.map (·.2)) = e) (hl : xs.length ≤ 100000) :
    mCompN own g it c elt env = some (.new (.lst ((xs.filter pb).map fd)), env1) := by
  unfold mCompN mComp
  rw [hit]
  simp only [Option.bind_some]
  rw [he, compL_pure k te pb fd xs [] h1 h2 h3 h4 (by simpa using hl)]
  simp only [Option.bind_some, List.nil_append]
  rw [hr]
theorem comp_all {own : List (Str × Nat)} {g : MG} {it : MI} {elt : ME} {env env1 e : Env} {α : Type} (k : α → D) (xs : List α) (te : α → Env) (fd : α → D) (hit : it env = some (xs.map k, env1)) (he : wipeE env1 (own.map (·.2)) = e) (hr : restE env1 e (own.map (·.2)) = env1)
    (h1 : ∀ x ∈ xs, g (.d (k x)) e = some (te x)) (h3 : ∀ x ∈ xs, (elt (te x)).bind (fun y => (fz y.1).bind fun d => some (d, wipeE y.2 (own.map (·.2)))) = some (fd x, e)) (hl : xs.length ≤ 100000) :
    mCompN own g it mYes elt env = some (.new (.lst (xs.map fd)), env1) := by
  have z := comp_pure (c := mYes) k xs te (fun _ => true) fd hit he hr h1 (fun _ _ => rfl) (fun x hx _ => h3 x hx) (fun _ _ q => by cases q) hl
  rw [z, List.filter_eq_self.mpr (fun _ _ => rfl)]
theorem boolsOf_map {α : Type} (f : α → Bool) (l : List α) : boolsOf (l.map fun c => .bool (f c)) = some (l.map f) := by
  have e : (l.map fun c => PyData.bool (f c)) = (l.map f).map .bool := by rw [List.map_map]; rfl
  rw [e]
  induction l.map f with
  | nil => rfl
  | cons b r ih => simp [boolsOf, ih]
theorem keysOf_strs : ∀ l : List Str, keysOf (l.map .str) = some (l.map Sum.inr)
  | [] => rfl
  | x :: l => by simp [keysOf, keyOf, keysOf_strs l]
theorem strsOf_strs : ∀ l : List Str, strsOf (l.map .str) = some l
  | [] => rfl
  | x :: l => by simp [strsOf, strsOf_strs l]
theorem intsOf_ints : ∀ l : List Int, intsOf (l.map .int) = some l
  | [] => rfl
  | x :: l => by simp [intsOf, intsOf_ints l]
theorem boolsOf_bools : ∀ l : List Bool, boolsOf (l.map .bool) = some l
  | [] => rfl
  | x :: l => by simp [boolsOf, boolsOf_bools l]
theorem dist_strs {l : List Str} (h : l.Nodup) : (dist (l.map (Sum.inr : Str → Key))).length = l.length := by
  rw [dist_map Sum.inr (fun _ _ z => Sum.inr.inj z), List.length_map]
  exact dist_len_eq.mpr h
theorem flat_strs (l : List Str) : (l.map PyData.str).all flatD = true := by simp [flatD]
theorem inV_strs (x : Str) (l : List Str) : inV (.str x) ((l.map PyData.str).map tv) = decide (x ∈ l) := by
  induction l with
  | nil => simp [inV]
  | cons y l ih =>
    simp only [inV, List.map_cons, List.any_cons] at ih ⊢
    have e : eqV (tv (.str y)) (.str x) = decide (x = y) := by
      show (y == x) = decide (x = y)
      by_cases z : x = y
      · subst z; simp
      · have z' : ¬ y = x := fun q => z q.symm
        simp [z, z']
    rw [e]
    have ih' : ((l.map PyData.str).map tv).any (fun w => eqV w (.str x)) = decide (x ∈ l) := ih
    rw [ih', Bool.eq_iff_iff]
    simp
theorem tv_str (x : Str) : tv (.str x) = .str x := rfl
@[simp] theorem in_tup (x : Str) (l : List Str) (neg : Bool) : oIn neg (.d (.str x)) (.d (sD l)) = some (bD (neg ^^ decide (x ∈ l))) := by
  have h := flat_strs l
  simp only [oIn, tv_str, inV_strs, h, flatD, and_self, if_true]
@[simp] theorem in_lst (x : Str) (l : List Str) (neg : Bool) : oIn neg (.d (.str x)) (.d (.list (l.map .str))) = some (bD (neg ^^ decide (x ∈ l))) := by
  have h := flat_strs l
  simp only [oIn, tv_str, inV_strs, h, flatD, and_self, if_true]
@[simp] theorem in_set (x : Str) (l : List Str) (neg : Bool) : oIn neg (.d (.str x)) (.s (l.map Sum.inr)) = some (bD (neg ^^ decide (x ∈ l))) := by
  simp [oIn, keyOf, memb]
end Ol
set_option Elab.async false
set_option linter.all false
set_option maxRecDepth 100000
set_option maxHeartbeats 4000000
namespace Ol
open PySem PySem.Spec PyProof.Rows L2
theorem run_sizes (l : List Str) (es : List Ev) (hz : es.length ≤ 5000) : fn_count_sizes [.d (sD l), .d (lg es)] = some (.new (.lst ((szs l.length es).map .int)), [none, none]) := by
  have loop := forL_run (g := store 3) (body := (mDrop (mMeth 0 2 fAppend (mCons (m2 oAdd (m2 oIx (mVar 2) (m1 oNeg (mC (.int 1)))) (mIf (mTest (m2 oEq (m2 oIx (mVar 3) (mC (.int 0))) (mC (.str "in")))) (mC (.int 1)) (m1 oNeg (mC (.int 1))))) mNil)))) ev
    (fun d => [some (.d (sD l)), some (.d (lg es)), some (.own false (.lst ((szs l.length d).map .int))), d.getLast?.map fun x => .d (ev x)]) es [] (fun d x r hd => by
      obtain ⟨pre, hp⟩ := szs_last l.length d
      have hl : pre.length + 1 < 100000 := by
        have h1 := congrArg List.length hp
        rw [szs_len] at h1
        have := congrArg List.length hd
        simp at this h1
        omega
      rw [szs_snoc, endN_snoc]
      cases x <;> simp [hp, ev, ix_last, dl, hl])
  simp [fn_count_sizes, runFn, m_count_sizes, mFor]
  simp at loop
  have e0 : (szs (↑l.length) []) = [↑l.length] := rfl
  rw [e0] at loop
  simp at loop
  rw [loop]
  simp
def letB (c : Nat) : Bool := !(Builtin.Str.occurrences ("abcdefghijklmnopqrstuvwxyz" : Str) ⟨#[c]⟩ 0 (Str.length "abcdefghijklmnopqrstuvwxyz") 1).isEmpty
def carB (x : Str) : Bool := decide (1 ≤ x.length) && decide (x.length ≤ 4) && x.cps.toList.all letB
theorem run_is_car (x : Str) (h : carB x = true) : fn_is_car [.d (.str x)] = some (.d (.bool true), [none]) := by
  simp only [carB, Bool.and_eq_true, decide_eq_true_eq] at h
  obtain ⟨⟨h1, h2⟩, h3⟩ := h
  have comp := comp_all (own := [("letter", 1)]) (g := store 1) (it := mIter (mVar 0)) (elt := (m2 (oIn false) (mVar 1) (mC (.str "abcdefghijklmnopqrstuvwxyz")))) (env := [some (.d (.str x)), none]) (env1 := [some (.d (.str x)), none]) (e := [some (.d (.str x)), none])
    (fun c : Nat => .str ⟨#[c]⟩) x.cps.toList (fun c => [some (.d (.str x)), some (.d (.str ⟨#[c]⟩))]) (fun c => .bool (letB c)) (by simp) (by simp [wipeE]) (by simp [restE]) (by simp) (by simp [wipeE, oIn, letB]) (by
      have : x.cps.toList.length = x.length := by simp [Str.length]
      omega)
  have hb : (x.cps.toList.map letB).all id = true := by simpa using h3
  simp [fn_is_car, runFn, m_is_car, h1, h2, comp, boolsOf_map, hb, show x.length ≤ 100000 by omega, show (1 : Int) ≤ (x.length : Int) by omega, show (x.length : Int) ≤ 4 by omega]
/-! calls -/
theorem run_is_lane (l : List Str) (h : ∀ x ∈ l, carB x = true) (hn : l.Nodup) (hz : l.length ≤ 4000) : fn_is_lane [.d (sD l)] = some (.d (.bool true), [none]) := by
  have comp := comp_all (own := [("car", 1)]) (g := store 1) (it := mIter (mVar 0)) (elt := (mCall [false] fn_is_car (mCons (mVar 1) mNil))) (env := [some (.d (sD l)), none]) (env1 := [some (.d (sD l)), none]) (e := [some (.d (sD l)), none])
    PyData.str l (fun c => [some (.d (sD l)), some (.d (.str c))]) (fun c => .bool true) (by simp) (by simp [wipeE]) (by simp [restE]) (by simp) (fun x hx => by simp [wipeE, mCall, fzIO, pars, par, okSlots, putOuts, run_is_car x (h x hx)]) (by omega)
  simp [fn_is_lane, runFn, m_is_lane, comp, boolsOf_map (fun _ : Str => true), keysOf_strs, dist_strs hn, show l.length + 1 < scanBound by show l.length + 1 < 4096; omega]
theorem run_check_lane (l : List Str) (h : ∀ x ∈ l, carB x = true) (hn : l.Nodup) (hz : l.length ≤ 4000) : fn_check_lane [.d (sD l)] = some (.d .none, [none]) := by
  simp [fn_check_lane, runFn, m_check_lane, mCall, fzIO, pars, par, okSlots, putOuts, run_is_lane l h hn hz]
theorem run_is_arrival (x : Ev) (h : ∀ c, x = some c → carB c = true) : fn_is_arrival [.d (ev x)] = some (.d (.bool x.isSome), [none]) := by
  cases x with
  | none => simp [fn_is_arrival, runFn, m_is_arrival, ev]
  | some c => simp [fn_is_arrival, runFn, m_is_arrival, ev, mCall, fzIO, pars, par, okSlots, putOuts, run_is_car c (h c rfl)]
theorem run_is_departure (x : Ev) : fn_is_departure [.d (ev x)] = some (.d (.bool x.isNone), [none]) := by
  cases x with
  | none => simp [fn_is_departure, runFn, m_is_departure, ev]
  | some c => simp [fn_is_departure, runFn, m_is_departure, ev]
/-- a log that is one for the lane -/
structure LogOk (l : List Str) (es : List Ev) : Prop where
  cars : ∀ c, some c ∈ es → carB c = true
  nd : (l ++ es.filterMap id).Nodup
  room : ∀ d r, es = d ++ none :: r → 0 < endN l.length d
  len : es.length ≤ 2000
theorem run_is_log (l : List Str) (es : List Ev) (hz : l.length ≤ 2000) (ok : LogOk l es) : fn_is_log_for [.d (sD l), .d (lg es)] = some (.d (.bool true), [none, none]) := by
  have loop := forL_run (g := store 4) (body := (mIfS (mAndT (mTru (mCall [false] fn_is_arrival (mCons (mVar 4) mNil))) (mTest (m2 (oIn true) (m2 oIx (mVar 4) (mC (.int 1))) (mVar 2)))) (mSeq (mDrop (mMeth 1 2 fAdd (mCons (m2 oIx (mVar 4) (mC (.int 1))) mNil))) (mAug 3 oIAdd (mC (.int 1)))) (mIfS (mAndT (mTru (mCall [false] fn_is_departure (mCons (mVar 4) mNil))) (mTest (m2 oGt (mVar 3) (mC (.int 0))))) (mAug 3 oSub (mC (.int 1))) (mRet (mC (.bool false)))))) ev
    (fun d => [some (.d (sD l)), some (.d (lg es)), some (.own false (.set ((l ++ d.filterMap id).map Sum.inr))), some (.d (.int (endN l.length d))), d.getLast?.map fun x => .d (ev x)]) es [] (fun d x r hd => by
      rw [List.nil_append] at hd
      have hlen : d.length < es.length := by rw [hd]; simp
      have hb : (dist ((l ++ d.filterMap id).map (Sum.inr : Str → Key))).length + 1 < scanBound := by
        have h1 := dist_len ((l ++ d.filterMap id).map (Sum.inr : Str → Key))
        have h2 := List.length_filterMap_le id d
        have h3 := ok.len
        rw [List.length_map, List.length_append] at h1
        show _ < 4096
        omega
      cases x with
      | none =>
        have hp := ok.room d r hd
        simp [endN_snoc, mCall, fzIO, pars, par, okSlots, putOuts, run_is_arrival none (by simp), run_is_departure none, hp, dl]
        omega
      | some c =>
        have hc : c ∉ l ++ d.filterMap id := by
          have z := ok.nd
          rw [hd, List.filterMap_append, ← List.append_assoc] at z
          intro hm
          exact (List.nodup_append.mp z).2.2 c hm c (by simp) rfl
        have e1 := run_is_arrival (some c) (fun c' e => by cases e; exact ok.cars c (by rw [hd]; simp))
        have e2 := in_set c (l ++ d.filterMap id) true
        rw [show decide (c ∈ l ++ d.filterMap id) = false by simpa using hc] at e2
        simp only [List.map_append] at e2 hb
        have e1' : fn_is_arrival [.d (.tuple [.str "in", .str c])] = some (.d (.bool true), [none]) := e1
        simp [endN_snoc, mCall, fzIO, pars, par, okSlots, putOuts, e1', dl, e2, fAdd, keyOf, hb, ev])
  have e0 : endN (l.length : Int) [] = l.length := rfl
  simp only [List.nil_append, List.filterMap_nil, List.append_nil, e0, List.getLast?_nil, Option.map_none] at loop
  simp only [oIAdd, oGt, oSub] at loop
  simp [fn_is_log_for, runFn, m_is_log_for, mFor, loop, keysOf_strs, show l.length + 1 < scanBound by show l.length + 1 < 4096; omega]
theorem run_check_log (l : List Str) (es : List Ev) (h : ∀ x ∈ l, carB x = true) (hn : l.Nodup) (hz : l.length ≤ 2000) (ok : LogOk l es) : fn_check_log [.d (sD l), .d (lg es)] = some (.d .none, [none, none]) := by
  simp [fn_check_log, runFn, m_check_log, mCall, fzIO, pars, par, okSlots, putOuts, run_check_lane l h hn (by omega), run_is_log l es hz ok]
end Ol
set_option Elab.async false
set_option linter.all false
set_option maxRecDepth 100000
set_option maxHeartbeats 4000000
/-! own: dict comprehensions and enumerate, run -/
namespace Ol
open PySem PySem.Spec PyProof.Rows L2
theorem putD_new {kvs : List (Key × D)} {k : Key} {d : D} (h : k ∉ kvs.map (·.1)) : putD kvs k d = kvs ++ [(k, d)] := by
  unfold putD
  rw [if_neg]
  intro z
  obtain ⟨x, hx, hk⟩ := List.any_eq_true.mp z
  exact h (List.mem_map.mpr ⟨x, hx, of_decide_eq_true hk⟩)
theorem compDL_new {own : List Nat} {g : MG} {ek evv : ME} {e : Env} {α : Type} (k : α → D) (te : α → Env) (key : α → Key) (val : α → D) : ∀ (xs : List α) (acc : List (Key × D)), (∀ x ∈ xs, g (.d (k x)) e = some (te x)) →
    (∀ x ∈ xs, (ek (te x)).bind (fun y => (fz y.1).bind fun kd => (keyOf kd).bind fun kk => (evv y.2).bind fun z => (fz z.1).bind fun d => some (kk, d, wipeE z.2 own)) = some (key x, val x, e)) → (acc.map (·.1) ++ xs.map key).Nodup → acc.length + xs.length ≤ 100000 →
    compDL own g mYes ek evv (xs.map k) e acc = some (acc ++ xs.map fun x => (key x, val x), e)
  | [], acc, _, _, _, _ => by simp [compDL]
  | x :: r, acc, h1, h2, nd, hl => by
    have m1 : x ∈ x :: r := List.mem_cons_self
    rw [List.map_cons]
    unfold compDL
    rw [h1 x m1]
    simp only [Option.bind_some, mYes, if_true]
    rw [List.length_cons] at hl
    have w := h2 x m1
    cases z1 : ek (te x) with
    | none => rw [z1] at w; cases w
    | some y =>
      rw [z1] at w
      simp only [Option.bind_some] at w ⊢
      cases z2 : fz y.1 with
      | none => rw [z2] at w; cases w
      | some kd =>
        rw [z2] at w
        simp only [Option.bind_some] at w ⊢
        cases z3 : keyOf kd with
        | none => rw [z3] at w; cases w
        | some kk =>
          rw [z3] at w
          simp only [Option.bind_some] at w ⊢
          cases z4 : evv y.2 with
          | none => rw [z4] at w; cases w
          | some zz =>
            rw [z4] at w
            simp only [Option.bind_some] at w ⊢
            cases z5 : fz zz.1 with
            | none => rw [z5] at w; cases w
            | some d =>
              rw [z5] at w
              simp only [Option.bind_some, Option.some.injEq, Prod.mk.injEq] at w ⊢
              obtain ⟨w1, w2, w3⟩ := w
              subst w1 w2
              have hn : key x ∉ acc.map (·.1) := fun hm => (List.nodup_append.mp nd).2.2 _ hm _ (by simp) rfl
              rw [if_pos (by omega), w3, putD_new hn, compDL_new k te key val r _ (fun y hy => h1 y (List.mem_cons_of_mem _ hy)) (fun y hy => h2 y (List.mem_cons_of_mem _ hy)) (by simpa using nd) (by simp; omega)]
              simp
theorem dcomp_new {own : List (Str × Nat)} {g : MG} {it : MI} {ek evv : ME} {env env1 e : Env} {α : Type} (k : α → D) (xs : List α) (te : α → Env) (key : α → Key) (val : α → D) (hit : it env = some (xs.map k, env1)) (he : wipeE env1 (own.map (·.2)) = e) (hr : restE env1 e (own.map (·.2)) = env1)
    (h1 : ∀ x ∈ xs, g (.d (k x)) e = some (te x)) (h3 : ∀ x ∈ xs, (ek (te x)).bind (fun y => (fz y.1).bind fun kd => (keyOf kd).bind fun kk => (evv y.2).bind fun z => (fz z.1).bind fun d => some (kk, d, wipeE z.2 (own.map (·.2)))) = some (key x, val x, e)) (nd : (xs.map key).Nodup) (hl : xs.length ≤ 100000) :
    mDCompN own g it mYes ek evv env = some (.new (.dic (xs.map fun x => (key x, val x))), env1) := by
  unfold mDCompN mDComp
  rw [hit]
  simp only [Option.bind_some]
  rw [he, compDL_new k te key val xs [] h1 h3 (by simpa using nd) (by simpa using hl)]
  simp only [Option.bind_some, List.nil_append]
  rw [hr]
theorem hasK_map {α : Type} (key : α → Key) (val : α → D) (xs : List α) (kk : Key) : hasK (xs.map fun x => (key x, val x)) kk = memb (xs.map key) kk := by
  rw [Bool.eq_iff_iff]
  simp [hasK, memb]
@[simp] theorem in_dic (x : Str) (kvs : List (Key × D)) (neg : Bool) : oIn neg (.d (.str x)) (.m kvs) = some (bD (neg ^^ hasK kvs (.inr x))) := by
  simp [oIn, keyOf]
theorem map_zip {α β : Type} (f : α → β) : ∀ (l : List α) (n : Nat), ((l.zipIdx n).map fun p => f p.1) = l.map f
  | [], _ => rfl
  | x :: l, n => by simp [map_zip f l]
theorem enumD_map {α : Type} (f : α → D) : ∀ (l : List α) (n : Nat), enumD n (l.map f) = (l.zipIdx n).map fun p => .tuple [.int (p.2 : Nat), f p.1]
  | [], _ => rfl
  | x :: l, n => by simp [enumD, enumD_map f l]
end Ol
set_option Elab.async false
set_option linter.all false
set_option maxRecDepth 100000
set_option maxHeartbeats 4000000
namespace Ol
open PySem PySem.Spec PyProof.Rows L2
abbrev arr (es : List Ev) : List Str := es.filterMap id
/-- [event[1] for event in log if event[0] == 'in'] -/
theorem filt_arr (es : List Ev) : (es.filter Option.isSome).map (fun x : Ev => PyData.str (x.getD ⟨#[]⟩)) = (arr es).map .str := by
  induction es with
  | nil => rfl
  | cons x r ih => cases x <;> simp [ih]
def knd (l : List Str) (es : List Ev) : List (Key × D) := ((l ++ arr es).zipIdx).map fun p => (Sum.inr p.1, .int (p.2 : Nat))
theorem knd_has (l : List Str) (es : List Ev) (x : Str) : hasK (knd l es) (.inr x) = decide (x ∈ l ++ arr es) := by
  unfold knd
  rw [hasK_map, Bool.eq_iff_iff]
  have e : ((l ++ arr es).zipIdx.map fun p => (Sum.inr p.1 : Key)) = (l ++ arr es).map Sum.inr := map_zip _ _ _
  rw [e]
  simp [memb]
theorem run_numbers (l : List Str) (es : List Ev) (nd : (l ++ arr es).Nodup) (h1 : l.length ≤ 2000) (h2 : es.length ≤ 2000) : fn_car_numbers [.d (sD l), .d (lg es)] = some (.new (.dic (knd l es)), [none, none]) := by
  have comp := comp_pure (own := [("event", 5)]) (g := store 5) (it := mIter (mVar 1)) (c := (mTest (m2 oEq (m2 oIx (mVar 5) (mC (.int 0))) (mC (.str "in"))))) (elt := (m2 oIx (mVar 5) (mC (.int 1)))) (env := [some (.d (sD l)), some (.d (lg es)), none, none, none, none]) (env1 := [some (.d (sD l)), some (.d (lg es)), none, none, none, none]) (e := [some (.d (sD l)), some (.d (lg es)), none, none, none, none])
    ev es (fun x => [some (.d (sD l)), some (.d (lg es)), none, none, none, some (.d (ev x))]) Option.isSome (fun x => .str (x.getD ⟨#[]⟩)) (by simp) (by simp [wipeE]) (by simp [restE]) (by simp) (fun x _ => by cases x <;> simp [ev]) (fun x _ hx => by cases x <;> simp [ev, wipeE] at hx ⊢) (by simp [wipeE]) (by omega)
  rw [filt_arr] at comp
  have hl : (arr es).length ≤ 2000 := Nat.le_trans (List.length_filterMap_le id es) h2
  have dc := dcomp_new (own := [("number", 3), ("car", 4)]) (g := mNames [3, 4]) (it := mEnum (mCons (mVar 2) mNil)) (ek := mVar 4) (evv := mVar 3) (env := [some (.d (sD l)), some (.d (lg es)), some (.d (.list ((l ++ arr es).map .str))), none, none, none]) (env1 := [some (.d (sD l)), some (.d (lg es)), some (.d (.list ((l ++ arr es).map .str))), none, none, none]) (e := [some (.d (sD l)), some (.d (lg es)), some (.d (.list ((l ++ arr es).map .str))), none, none, none])
    (fun p : Str × Nat => .tuple [.int (p.2 : Nat), .str p.1]) ((l ++ arr es).zipIdx) (fun p => [some (.d (sD l)), some (.d (lg es)), some (.d (.list ((l ++ arr es).map .str))), some (.d (.int (p.2 : Nat))), some (.d (.str p.1)), none]) (fun p => .inr p.1) (fun p => .int (p.2 : Nat)) (by
      have z := enumD_map PyData.str (l ++ arr es) 0
      simp [z]
      simpa using z) (by simp [wipeE]) (by simp [restE]) (by simp) (by simp [wipeE, keyOf]) (by
      have e : ((l ++ arr es).zipIdx.map fun p => (Sum.inr p.1 : Key)) = (l ++ arr es).map Sum.inr := map_zip _ _ _
      rw [e]
      exact List.Pairwise.map _ (fun a b h z => h (Sum.inr.inj z)) nd) (by simp; omega)
  simp only [List.map_append] at dc
  simp [fn_car_numbers, runFn, m_car_numbers, comp, show l.length + (arr es).length ≤ 100000 by omega, dc, knd]
end Ol
set_option Elab.async false
set_option linter.all false
set_option maxRecDepth 100000
set_option maxHeartbeats 4000000
/-! own, plain: a lane replayed -/
namespace Ol
open PySem PySem.Spec PyProof.Rows L2
theorem snoc_ind {α : Type} {P : List α → Prop} (h0 : P []) (hs : ∀ l x, P l → P (l ++ [x])) (l : List α) : P l := by
  have go : ∀ r : List α, P r.reverse := by
    intro r
    induction r with
    | nil => exact h0
    | cons x r ih => rw [List.reverse_cons]; exact hs _ x ih
  have := go l.reverse
  rwa [List.reverse_reverse] at this
/-- an event with its side (true: the left) -/
abbrev Mv := Ev × Bool
def stp (s : List Str × List Str) (x : Mv) : List Str × List Str := match x with
  | (some c, b) => (if b then c :: s.1 else s.1 ++ [c], s.2)
  | (none, b) => if b then (s.1.tail, s.2 ++ s.1.head?.toList) else (s.1.dropLast, s.2 ++ s.1.getLast?.toList)
def rp (l : List Str) (xs : List Mv) : List Str × List Str := xs.foldl stp (l, [])
theorem stp_gone (l g : List Str) (x : Mv) : stp (l, g) x = ((stp (l, []) x).1, g ++ (stp (l, []) x).2) := by
  obtain ⟨e, b⟩ := x
  cases e <;> cases b <;> simp [stp]
theorem fold_gone : ∀ (xs : List Mv) (l g : List Str), xs.foldl stp (l, g) = ((rp l xs).1, g ++ (rp l xs).2)
  | [], l, g => by simp [rp]
  | x :: xs, l, g => by
    unfold rp
    rw [List.foldl_cons, List.foldl_cons, stp_gone l g x, fold_gone xs, fold_gone xs (stp (l, []) x).1 (stp (l, []) x).2]
    simp [List.append_assoc]
theorem rp_nil (l : List Str) : rp l [] = (l, []) := rfl
theorem rp_append (l : List Str) (xs ys : List Mv) : rp l (xs ++ ys) = ((rp (rp l xs).1 ys).1, (rp l xs).2 ++ (rp (rp l xs).1 ys).2) := by
  show (xs ++ ys).foldl stp (l, []) = _
  rw [List.foldl_append]
  have e : xs.foldl stp (l, []) = ((rp l xs).1, (rp l xs).2) := rfl
  rw [e, fold_gone]
theorem rp_snoc (l : List Str) (xs : List Mv) (x : Mv) : rp l (xs ++ [x]) = stp (rp l xs) x := by
  unfold rp
  rw [List.foldl_append]
  rfl
abbrev evs (xs : List Mv) : List Ev := xs.map (·.1)
theorem stp_perm (l g : List Str) (x : Mv) : ((stp (l, g) x).1 ++ (stp (l, g) x).2).Perm (l ++ g ++ x.1.toList) := by
  obtain ⟨e, b⟩ := x
  cases e with
  | some c =>
    cases b with
    | true =>
      show (c :: l ++ g).Perm (l ++ g ++ [c])
      exact (List.perm_append_singleton c (l ++ g)).symm
    | false =>
      show (l ++ [c] ++ g).Perm (l ++ g ++ [c])
      rw [List.append_assoc, List.append_assoc]
      exact List.Perm.append_left l (List.perm_append_comm)
  | none =>
    cases b with
    | true =>
      cases l with
      | nil => simp [stp]
      | cons y l =>
        show (l ++ (g ++ [y])).Perm (y :: l ++ g ++ [])
        rw [List.append_nil, ← List.append_assoc]
        exact List.perm_append_singleton y (l ++ g)
    | false =>
      rcases List.eq_nil_or_concat l with rfl | ⟨l', y, rfl⟩
      · simp [stp]
      · rw [List.concat_eq_append]
        have e1 : stp (l' ++ [y], g) (none, false) = (l', g ++ [y]) := by simp [stp]
        rw [e1]
        simp only [Option.toList_none, List.append_nil]
        rw [List.append_assoc]
        exact List.Perm.append_left l' List.perm_append_comm
theorem rp_perm (l : List Str) : ∀ xs : List Mv, ((rp l xs).1 ++ (rp l xs).2).Perm (l ++ arr (evs xs)) := by
  intro xs
  induction xs using snoc_ind with
  | h0 => simp [rp_nil, arr]
  | hs xs x ih =>
    rw [rp_snoc]
    refine (stp_perm _ _ x).trans ?_
    have e : arr (evs (xs ++ [x])) = arr (evs xs) ++ x.1.toList := by
      unfold arr evs
      rw [List.map_append, List.filterMap_append]
      obtain ⟨e0, b⟩ := x
      cases e0 <;> simp
    rw [e, ← List.append_assoc]
    exact ih.append_right _
/-- mirrored -/
def flp (x : Mv) : Mv := (x.1, !x.2)
theorem stp_flip (l g : List Str) (x : Mv) : stp (l.reverse, g) (flp x) = ((stp (l, g) x).1.reverse, (stp (l, g) x).2) := by
  obtain ⟨e, b⟩ := x
  cases e <;> cases b <;> simp [stp, flp]
theorem rp_flip (l : List Str) : ∀ xs : List Mv, rp l.reverse (xs.map flp) = ((rp l xs).1.reverse, (rp l xs).2) := by
  intro xs
  induction xs using snoc_ind with
  | h0 => rfl
  | hs xs x ih => rw [List.map_append, List.map_singleton, rp_snoc, ih, stp_flip, rp_snoc]
/-- renamed -/
def ren (f : Str → Str) (x : Mv) : Mv := (x.1.map f, x.2)
theorem stp_ren (f : Str → Str) (l g : List Str) (x : Mv) : stp (l.map f, g.map f) (ren f x) = ((stp (l, g) x).1.map f, (stp (l, g) x).2.map f) := by
  obtain ⟨e, b⟩ := x
  cases e with
  | some c => cases b <;> simp [stp, ren]
  | none =>
    cases b with
    | true => cases l <;> simp [stp, ren]
    | false =>
      rcases List.eq_nil_or_concat l with rfl | ⟨l', y, rfl⟩
      · simp [stp, ren]
      · simp [stp, ren]
theorem rp_ren (f : Str → Str) (l : List Str) : ∀ xs : List Mv, rp (l.map f) (xs.map (ren f)) = ((rp l xs).1.map f, (rp l xs).2.map f) := by
  intro xs
  induction xs using snoc_ind with
  | h0 => rfl
  | hs xs x ih => rw [List.map_append, List.map_singleton, rp_snoc, ih, stp_ren, rp_snoc]
/-- a place for every departure -/
def Rm (l : List Str) (es : List Ev) : Prop := ∀ d r, es = d ++ none :: r → 0 < endN l.length d
theorem Rm.left {l : List Str} {a b : List Ev} (h : Rm l (a ++ b)) : Rm l a := fun d r e => h d (r ++ b) (by rw [e]; simp)
theorem rp_len (l : List Str) : ∀ xs : List Mv, Rm l (evs xs) → ((rp l xs).1.length : Int) = endN l.length (evs xs) := by
  intro xs
  induction xs using snoc_ind with
  | h0 => intro _; simp [rp_nil, endN]
  | hs xs x ih =>
    intro h
    have e0 : evs (xs ++ [x]) = evs xs ++ [x.1] := by simp [evs]
    rw [e0] at h ⊢
    have i0 := ih h.left
    rw [rp_snoc, endN_snoc, ← i0]
    obtain ⟨e, b⟩ := x
    cases e with
    | some c => cases b <;> simp [stp, dl] <;> omega
    | none =>
      have h0 := h (evs xs) [] (by simp)
      rw [← i0] at h0
      cases b <;> simp [stp, dl] <;> omega
theorem rp_ne {l : List Str} {xs ys : List Mv} {b : Bool} (h : Rm l (evs (xs ++ (none, b) :: ys))) : (rp l xs).1 ≠ [] := by
  have e0 : evs (xs ++ (none, b) :: ys) = evs xs ++ none :: evs ys := by simp [evs]
  rw [e0] at h
  have h0 := h (evs xs) (evs ys) rfl
  have h1 := rp_len l xs (h.left)
  intro z
  rw [z] at h1
  simp at h1
  omega
end Ol
set_option Elab.async false
set_option linter.all false
set_option maxRecDepth 100000
set_option maxHeartbeats 4000000
/-! own: loops that may end early; places -/
namespace Ol
open PySem PySem.Spec PyProof.Rows L2
theorem forL_find {g : MG} {body : MS} (c : Nat → D) (I : Nat → Env) (P : Nat → Bool) (v : Nat → PV) (ve : Nat → Env) : ∀ (n m : Nat), (∀ i, m ≤ i → i < m + n → (g (.d (c i)) (I i)).bind body = if P i = true then some (.ret (v i) (ve i)) else some (.nx (I (i + 1)))) →
    forL g body ((List.range' m n).map c) (I m) = match (List.range' m n).find? P with
      | some i => some (.ret (v i) (ve i))
      | none => some (.nx (I (m + n)))
  | 0, m, _ => rfl
  | n + 1, m, h => by
    have h0 := h m (Nat.le_refl _) (by omega)
    have ih := forL_find c I P v ve n (m + 1) fun i h1 h2 => h i (by omega) (by omega)
    rw [List.range'_succ, List.map_cons]
    unfold forL
    cases z : g (.d (c m)) (I m) with
    | none => rw [z] at h0; cases q : P m <;> rw [q] at h0 <;> cases h0
    | some e1 =>
      rw [z] at h0
      have h2 : body e1 = if P m = true then some (.ret (v m) (ve m)) else some (.nx (I (m + 1))) := h0
      show (body e1).bind _ = _
      rw [h2]
      cases q : P m with
      | true => simp [List.find?_cons, q]
      | false =>
        rw [if_neg (by simp)]
        show forL g body ((List.range' (m + 1) n).map c) (I (m + 1)) = _
        rw [ih, show m + 1 + n = m + (n + 1) by omega]
        simp [List.find?_cons, q]
theorem enumD_range (f : Nat → D) : ∀ (k m : Nat), enumD m ((List.range' m k).map f) = (List.range' m k).map fun i => .tuple [.int (i : Nat), f i]
  | 0, _ => rfl
  | k + 1, m => by simp [List.range'_succ, enumD, enumD_range f k (m + 1)]
theorem szs_range : ∀ (es : List Ev) (n : Int), szs n es = (List.range' 0 (es.length + 1)).map fun i => endN n (es.take i)
  | [], n => by simp [szs, endN, List.range'_succ]
  | e :: r, n => by
    have z := szs_range r (n + dl e)
    rw [show (e :: r).length + 1 = (r.length + 1) + 1 by simp, List.range'_succ, List.map_cons]
    show n :: szs (n + dl e) r = _
    rw [z, List.range'_eq_map_range, List.range'_eq_map_range]
    simp [endN, List.map_map, Function.comp_def, Nat.add_comm]
end Ol
set_option Elab.async false
set_option linter.all false
set_option maxRecDepth 100000
set_option maxHeartbeats 4000000
/-! own: what must hold for a text of the language to end in Q -/
namespace Ol
open PySem PySem.Spec PyProof.Rows L2
def W {α : Type} (m : Env → Option (α × Env)) (env : Env) (Q : α → Env → Prop) : Prop := ∃ v e, m env = some (v, e) ∧ Q v e
def WS (m : MS) (env : Env) (Q : Rs → Prop) : Prop := ∃ r, m env = some r ∧ Q r
def WG (g : MG) (x : PV) (env : Env) (Q : Env → Prop) : Prop := ∃ e, g x env = some e ∧ Q e
def WF (F : Fn) (svs : List SV) (Q : PV → List (Option Ob) → Prop) : Prop := ∃ r outs, F svs = some (r, outs) ∧ Q r outs
def thn (t : MS) (Q : Rs → Prop) : Rs → Prop
  | .nx e => WS t e Q
  | r => Q r
def turn (I : Env → Prop) (Q : Rs → Prop) : Rs → Prop
  | .nx e => I e
  | .ct e => I e
  | .bk e => Q (.nx e)
  | .ret v e => Q (.ret v e)
def fin (svs : List SV) (Q : PV → List (Option Ob) → Prop) : Rs → Prop
  | .nx e => ∃ os, outsOf e 0 svs = some os ∧ Q (.d .none) os
  | .ret v e => ∃ os, outsOf e 0 svs = some os ∧ Q v os
  | _ => False
section
variable {env : Env} {a b c : ME} {f g : RV → RV → Option PV} {Q : PV → Env → Prop} {QB : Bool → Env → Prop} {QS : Rs → Prop}
theorem W.mono {α : Type} {m : Env → Option (α × Env)} {Q Q' : α → Env → Prop} (h : W m env Q) (q : ∀ v e, Q v e → Q' v e) : W m env Q' := by
  obtain ⟨v, e, h1, h2⟩ := h; exact ⟨v, e, h1, q v e h2⟩
theorem WS.mono {m : MS} {Q Q' : Rs → Prop} (h : WS m env Q) (q : ∀ r, Q r → Q' r) : WS m env Q' := by
  obtain ⟨v, h1, h2⟩ := h; exact ⟨v, h1, q v h2⟩
theorem WF.mono {F : Fn} {svs : List SV} {Q Q' : PV → List (Option Ob) → Prop} (h : WF F svs Q) (q : ∀ v e, Q v e → Q' v e) : WF F svs Q' := by
  obtain ⟨v, e, h1, h2⟩ := h; exact ⟨v, e, h1, q v e h2⟩
theorem u_var {i : Nat} {x : D} (h : sget env i = some (.d x)) (q : Q (.d x) env) : W (mVar i) env Q := ⟨.d x, env, by simp [mVar, h], q⟩
theorem u_varO {i : Nat} {bb : Bool} {o : Ob} (h : sget env i = some (.own bb o)) (q : Q (.slot i) env) : W (mVar i) env Q := ⟨.slot i, env, by simp [mVar, h], q⟩
theorem u_c {x : D} (q : Q (.d x) env) : W (mC x) env Q := ⟨_, _, rfl, q⟩
theorem u_newT (q : Q (.new (.dit [])) env) : W mNewT env Q := ⟨_, _, rfl, q⟩
theorem u_m1 {f : RV → Option PV} (h : W a env fun x e => ∃ r p, rd e x = some r ∧ f r = some p ∧ Q p e) : W (m1 f a) env Q := by
  obtain ⟨x, e, h1, r, p, h2, h3, q⟩ := h
  exact ⟨p, e, by simp only [m1, h1, h2, h3, Option.bind_some, if_true, Bool.false_eq_true, if_false], q⟩
theorem u_m2 (h : W a env fun x e1 => W b e1 fun y e2 => ∃ r t p, rd e2 x = some r ∧ rd e2 y = some t ∧ f r t = some p ∧ Q p e2) : W (m2 f a b) env Q := by
  obtain ⟨x, e1, h1, y, e2, h2, r, t, p, h3, h4, h5, q⟩ := h
  exact ⟨p, e2, by simp only [m2, h1, h2, h3, h4, h5, Option.bind_some, if_true, Bool.false_eq_true, if_false], q⟩
theorem u_nil {Q : List PV → Env → Prop} (q : Q [] env) : W mNil env Q := ⟨_, _, rfl, q⟩
theorem u_cons {r : MA} {Q : List PV → Env → Prop} (h : W a env fun x e1 => ∃ p, flt x = some p ∧ W r e1 fun ys e2 => Q (p :: ys) e2) : W (mCons a r) env Q := by
  obtain ⟨x, e1, h1, p, h2, ys, e2, h3, q⟩ := h
  exact ⟨_, e2, by simp only [mCons, h1, h2, h3, Option.bind_some, if_true, Bool.false_eq_true, if_false], q⟩
theorem u_mB {f : List RV → Option PV} {ma : MA} (h : W ma env fun xs e => ∃ rs p, rds e xs = some rs ∧ f rs = some p ∧ Q p e) : W (mB f ma) env Q := by
  obtain ⟨x, e, h1, r, p, h2, h3, q⟩ := h
  exact ⟨p, e, by simp only [mB, h1, h2, h3, Option.bind_some, if_true, Bool.false_eq_true, if_false], q⟩
theorem u_tup {ma : MA} (h : W ma env fun xs e => ∃ ds, fzs xs = some ds ∧ ds.length ≤ 100000 ∧ Q (.d (.tuple ds)) e) : W (mTup ma) env Q := by
  obtain ⟨x, e, h1, ds, h2, h3, q⟩ := h
  exact ⟨_, e, by simp only [mTup, h1, h2, h3, Option.bind_some, if_true, Bool.false_eq_true, if_false], q⟩
theorem u_lst {ma : MA} (h : W ma env fun xs e => ∃ ds, fzs xs = some ds ∧ ds.length ≤ 100000 ∧ Q (.new (.lst ds)) e) : W (mLst ma) env Q := by
  obtain ⟨x, e, h1, ds, h2, h3, q⟩ := h
  exact ⟨_, e, by simp only [mLst, h1, h2, h3, Option.bind_some, if_true, Bool.false_eq_true, if_false], q⟩
theorem u_test (h : W a env fun x e => ∃ k, mBo x = some k ∧ QB k e) : W (mTest a) env QB := by
  obtain ⟨x, e, h1, k, h2, q⟩ := h
  exact ⟨k, e, by simp only [mTest, h1, h2, Option.bind_some, if_true, Bool.false_eq_true, if_false], q⟩
theorem u_tru (h : W a env fun x e => ∃ r k, rd e x = some r ∧ tru r = some k ∧ QB k e) : W (mTru a) env QB := by
  obtain ⟨x, e, h1, r, k, h2, h3, q⟩ := h
  exact ⟨k, e, by simp only [mTru, h1, h2, h3, Option.bind_some], q⟩
theorem u_yes (q : QB true env) : W mYes env QB := ⟨_, _, rfl, q⟩
theorem u_andT {s t : MT} (h : W s env fun k e => (k = true → W t e QB) ∧ (k = false → QB false e)) : W (mAndT s t) env QB := by
  obtain ⟨k, e, h1, h2, h3⟩ := h
  cases k with
  | true => obtain ⟨v, e', h4, q⟩ := h2 rfl; exact ⟨v, e', by simp only [mAndT, h1, h4, Option.bind_some, if_true, Bool.false_eq_true, if_false], q⟩
  | false => exact ⟨_, _, by simp only [mAndT, h1, Option.bind_some, if_true, Bool.false_eq_true, if_false], h3 rfl⟩
theorem u_orT {s t : MT} (h : W s env fun k e => (k = true → QB true e) ∧ (k = false → W t e QB)) : W (mOrT s t) env QB := by
  obtain ⟨k, e, h1, h2, h3⟩ := h
  cases k with
  | false => obtain ⟨v, e', h4, q⟩ := h3 rfl; exact ⟨v, e', by simp only [mOrT, h1, h4, Option.bind_some, if_true, Bool.false_eq_true, if_false], q⟩
  | true => exact ⟨_, _, by simp only [mOrT, h1, Option.bind_some, if_true, Bool.false_eq_true, if_false], h2 rfl⟩
theorem u_notT {s : MT} (h : W s env fun k e => QB (!k) e) : W (mNotT s) env QB := by
  obtain ⟨k, e, h1, q⟩ := h
  exact ⟨_, e, by simp only [mNotT, h1, Option.bind_some, if_true, Bool.false_eq_true, if_false], q⟩
theorem u_and (h : W a env fun x e => ∃ k, mBo x = some k ∧ (k = true → W b e Q) ∧ (k = false → Q (.d (.bool false)) e)) : W (mAnd a b) env Q := by
  obtain ⟨x, e, h1, k, h2, h3, h4⟩ := h
  cases k with
  | true => obtain ⟨v, e', h5, q⟩ := h3 rfl; exact ⟨v, e', by simp only [mAnd, h1, h2, h5, Option.bind_some, if_true, Bool.false_eq_true, if_false], q⟩
  | false => exact ⟨_, _, by simp only [mAnd, h1, h2, Option.bind_some, if_true, Bool.false_eq_true, if_false], h4 rfl⟩
theorem u_or (h : W a env fun x e => ∃ k, mBo x = some k ∧ (k = true → Q (.d (.bool true)) e) ∧ (k = false → W b e Q)) : W (mOr a b) env Q := by
  obtain ⟨x, e, h1, k, h2, h3, h4⟩ := h
  cases k with
  | false => obtain ⟨v, e', h5, q⟩ := h4 rfl; exact ⟨v, e', by simp only [mOr, h1, h2, h5, Option.bind_some, if_true, Bool.false_eq_true, if_false], q⟩
  | true => exact ⟨_, _, by simp only [mOr, h1, h2, Option.bind_some, if_true, Bool.false_eq_true, if_false], h3 rfl⟩
theorem u_not (h : W a env fun x e => ∃ k, mBo x = some k ∧ Q (.d (.bool !k)) e) : W (mNot a) env Q := by
  obtain ⟨x, e, h1, k, h2, q⟩ := h
  exact ⟨_, e, by simp only [mNot, h1, h2, Option.bind_some, if_true, Bool.false_eq_true, if_false], q⟩
theorem u_if {t : MT} (h : W t env fun k e => (k = true → W a e Q) ∧ (k = false → W b e Q)) : W (mIf t a b) env Q := by
  obtain ⟨k, e, h1, h2, h3⟩ := h
  cases k with
  | true => obtain ⟨v, e', h4, q⟩ := h2 rfl; exact ⟨v, e', by simp only [mIf, h1, h4, Option.bind_some, if_true, Bool.false_eq_true, if_false], q⟩
  | false => obtain ⟨v, e', h4, q⟩ := h3 rfl; exact ⟨v, e', by simp only [mIf, h1, h4, Option.bind_some, if_true, Bool.false_eq_true, if_false], q⟩
theorem u_chain (h : W a env fun x e1 => W b e1 fun y e2 => ∃ r t p k, rd e2 x = some r ∧ rd e2 y = some t ∧ f r t = some p ∧ mBo p = some k ∧ (k = true → W c e2 fun z e3 => ∃ r t p, rd e3 y = some r ∧ rd e3 z = some t ∧ g r t = some p ∧ Q p e3) ∧ (k = false → Q (.d (.bool false)) e2)) : W (mChain f g a b c) env Q := by
  obtain ⟨x, e1, h1, y, e2, h2, r, t, p, k, h3, h4, h5, h6, h7, h8⟩ := h
  cases k with
  | true =>
    obtain ⟨z, e3, h9, r', t', p', k1, k2, k3, q⟩ := h7 rfl
    exact ⟨p', e3, by simp only [mChain, h1, h2, h3, h4, h5, h6, h9, k1, k2, k3, Option.bind_some, if_true, Bool.false_eq_true, if_false], q⟩
  | false => exact ⟨_, e2, by simp only [mChain, h1, h2, h3, h4, h5, h6, Option.bind_some, if_true, Bool.false_eq_true, if_false], h8 rfl⟩
theorem u_noP {Q : Option Int → Env → Prop} (q : Q none env) : W mNoP env Q := ⟨_, _, rfl, q⟩
theorem u_P {Q : Option Int → Env → Prop} (h : W a env fun x e => ∃ i : Int, x = .d (.int i) ∧ Q (some i) e) : W (mP a) env Q := by
  obtain ⟨x, e, h1, i, rfl, q⟩ := h
  exact ⟨_, e, by simp only [mP, h1, Option.bind_some, if_true, Bool.false_eq_true, if_false], q⟩
theorem u_sl {l h : MO} (hh : W a env fun x e1 => W l e1 fun lo e2 => W h e2 fun hi e3 => ∃ r p, rd e3 x = some r ∧ oSl lo hi r = some p ∧ Q p e3) : W (mSl a l h) env Q := by
  obtain ⟨x, e1, h1, lo, e2, h2, hi, e3, h3, r, p, h4, h5, q⟩ := hh
  exact ⟨p, e3, by simp only [mSl, h1, h2, h3, h4, h5, Option.bind_some], q⟩
theorem u_meth {kd i : Nat} {f : Ob → List D → Option (PV × Ob)} {ma : MA} (h : ∃ b0 o0, sget env i = some (.own b0 o0) ∧ o0.kind = kd ∧ W ma env fun xs e => ∃ ds b o r, fzs xs = some ds ∧ sget e i = some (.own b o) ∧ f o ds = some r ∧ Q r.1 (sset e i (some (.own b r.2)))) : W (mMeth kd i f ma) env Q := by
  obtain ⟨b0, o0, h0, hk, xs, e, h1, ds, b, o, r, h2, h3, h4, q⟩ := h
  exact ⟨_, _, by simp only [mMeth, h0, hk, h1, h2, h3, h4, Option.bind_some, if_true], q⟩
theorem u_isi {T : String} (h : W a env fun x e => ∃ r, rd e x = some r ∧ noSet r = true ∧ isaOk T = true ∧ Q (.d (.bool (isaB (tyD r) T))) e) : W (mIsi a T) env Q := by
  obtain ⟨x, e, h1, r, h2, h3, h4, q⟩ := h
  exact ⟨_, e, by simp only [mIsi, h1, h2, h3, h4, Option.bind_some, and_self, if_true], q⟩
theorem u_isi2 {T T' : String} (h : W a env fun x e => ∃ r, rd e x = some r ∧ noSet r = true ∧ isaOk T = true ∧ isaOk T' = true ∧ Q (.d (.bool (isaB (tyD r) T || isaB (tyD r) T'))) e) : W (mIsi2 a T T') env Q := by
  obtain ⟨x, e, h1, r, h2, h3, h4, h5, q⟩ := h
  exact ⟨_, e, by simp only [mIsi2, h1, h2, h3, h4, h5, Option.bind_some, and_self, if_true], q⟩
/-- a call: what is lent, what the function does, what comes back -/
theorem u_call {ios : List Bool} {F : Fn} {ma : MA} (h : W ma env fun xs e1 => okSlots (fzIO ios xs) = true ∧ ∃ ss, pars e1 ios (fzIO ios xs) = some ss ∧ WF F (ss.map (·.1)) fun r outs => (!(ss.any (·.2)) || (nlP r && nlM outs)) = true ∧ ∃ e2, putOuts e1 (fzIO ios xs) outs = some e2 ∧ Q r e2) : W (mCall ios F ma) env Q := by
  obtain ⟨xs, e1, h1, h2, ss, h3, r, outs, h4, h5, e2, h6, q⟩ := h
  exact ⟨r, e2, by simp only [mCall, h1, h2, h3, h4, h5, h6, Option.bind_some, if_true], q⟩
theorem u_callK {perm : List Nat} {ios : List Bool} {F : Fn} {ma : MA} (h : W ma env fun xs e1 => ∃ ys, pick perm xs = some ys ∧ okSlots (fzIO ios ys) = true ∧ ∃ ss, pars e1 ios (fzIO ios ys) = some ss ∧ WF F (ss.map (·.1)) fun r outs => (!(ss.any (·.2)) || (nlP r && nlM outs)) = true ∧ ∃ e2, putOuts e1 (fzIO ios ys) outs = some e2 ∧ Q r e2) : W (mCallK perm ios F ma) env Q := by
  obtain ⟨xs, e1, h1, ys, h0, h2, ss, h3, r, outs, h4, h5, e2, h6, q⟩ := h
  exact ⟨r, e2, by simp only [mCallK, h1, h0, h2, h3, h4, h5, h6, Option.bind_some, if_true], q⟩
/-! statements -/
theorem u_seq {s t : MS} (h : WS s env (thn t QS)) : WS (mSeq s t) env QS := by
  obtain ⟨r, h1, h2⟩ := h
  cases r with
  | nx e => obtain ⟨r', h3, q⟩ := h2; exact ⟨r', by simp only [mSeq, h1, h3, Option.bind_some, if_true, Bool.false_eq_true, if_false], q⟩
  | ret v e => exact ⟨.ret v e, by simp only [mSeq, h1, Option.bind_some, if_true, Bool.false_eq_true, if_false], h2⟩
  | bk e => exact ⟨.bk e, by simp only [mSeq, h1, Option.bind_some, if_true, Bool.false_eq_true, if_false], h2⟩
  | ct e => exact ⟨.ct e, by simp only [mSeq, h1, Option.bind_some, if_true, Bool.false_eq_true, if_false], h2⟩
theorem u_ifS {k : MT} {s t : MS} (h : W k env fun k e => (k = true → WS s e QS) ∧ (k = false → WS t e QS)) : WS (mIfS k s t) env QS := by
  obtain ⟨k, e, h1, h2, h3⟩ := h
  cases k with
  | true => obtain ⟨r, h4, q⟩ := h2 rfl; exact ⟨r, by simp only [mIfS, h1, h4, Option.bind_some, if_true, Bool.false_eq_true, if_false], q⟩
  | false => obtain ⟨r, h4, q⟩ := h3 rfl; exact ⟨r, by simp only [mIfS, h1, h4, Option.bind_some, if_true, Bool.false_eq_true, if_false], q⟩
theorem u_skip (q : QS (.nx env)) : WS mSkip env QS := ⟨_, rfl, q⟩
theorem u_break (q : QS (.bk env)) : WS mBreak env QS := ⟨_, rfl, q⟩
theorem u_cont (q : QS (.ct env)) : WS mCont env QS := ⟨_, rfl, q⟩
theorem u_asg {gg : MG} (h : W a env fun x e => WG gg x e fun e' => QS (.nx e')) : WS (mAsg gg a) env QS := by
  obtain ⟨x, e, h1, e', h2, q⟩ := h
  exact ⟨_, by simp only [mAsg, h1, h2, Option.bind_some], q⟩
theorem u_asgF {i : Nat} (h : W a env fun x e => ∃ e', store i (fzP x) e = some e' ∧ QS (.nx e')) : WS (mAsgF i a) env QS := by
  obtain ⟨x, e, h1, e', h2, q⟩ := h
  exact ⟨_, by simp only [mAsgF, h1, h2, Option.bind_some], q⟩
theorem u_drop (h : W a env fun x e => QS (.nx e)) : WS (mDrop a) env QS := by
  obtain ⟨x, e, h1, q⟩ := h
  exact ⟨_, by simp only [mDrop, h1, Option.bind_some], q⟩
theorem u_ret (h : W a env fun x e => ∃ y, back e x = some y ∧ QS (.ret y e)) : WS (mRet a) env QS := by
  obtain ⟨x, e, h1, y, h2, q⟩ := h
  exact ⟨_, by simp only [mRet, h1, h2, Option.bind_some], q⟩
theorem u_retN (q : QS (.ret (.d .none) env)) : WS mRetN env QS := ⟨_, rfl, q⟩
theorem u_retT {ma : MA} (h : W ma env fun xs e => okSlots xs = true ∧ xs.length ≤ 1000 ∧ ∃ ys, backs e xs = some ys ∧ QS (.ret (.tup ys) e)) : WS (mRetT ma) env QS := by
  obtain ⟨xs, e, h1, h2, h3, ys, h4, q⟩ := h
  exact ⟨_, by simp only [mRetT, h1, h2, h3, h4, Option.bind_some, and_self, if_true], q⟩
theorem u_par {is : List Nat} {ma : MA} (h : W ma env fun xs e => ∃ e', stores is xs e = some e' ∧ QS (.nx e')) : WS (mPar is ma) env QS := by
  obtain ⟨xs, e, h1, e', h2, q⟩ := h
  exact ⟨_, by simp only [mPar, h1, h2, Option.bind_some], q⟩
theorem u_aug {i : Nat} {x : D} (h0 : sget env i = some (.d x)) (h : W a env fun y e => ∃ t p e', rd e y = some t ∧ f (.d x) t = some p ∧ store i p e = some e' ∧ QS (.nx e')) : WS (mAug i f a) env QS := by
  obtain ⟨y, e, h1, t, p, e', h2, h3, h4, q⟩ := h
  exact ⟨_, by simp only [mAug, h0, h1, h2, h3, h4, Option.bind_some], q⟩
theorem u_setIx {i : Nat} {ff : Ob → D → D → Option Ob} (h : W b env fun x e => ∃ y, fz x = some y ∧ ∃ b0 o0, sget e i = some (.own b0 o0) ∧ W a e fun k e2 => ∃ kd b1 o o', fz k = some kd ∧ sget e2 i = some (.own b1 o) ∧ ff o kd y = some o' ∧ QS (.nx (sset e2 i (some (.own b1 o'))))) : WS (mSetIx i ff a b) env QS := by
  obtain ⟨x, e, h1, y, h2, b0, o0, h3, k, e2, h4, kd, b1, o, o', h5, h6, h7, q⟩ := h
  exact ⟨_, by simp only [mSetIx, h1, h2, h3, h4, h5, h6, h7, Option.bind_some], q⟩
theorem u_for {gg : MG} {it : MI} {s : MS} (h : W it env fun ds e => WS (forL gg s ds) e QS) : WS (mFor gg it s) env QS := by
  obtain ⟨ds, e, h1, r, h2, q⟩ := h
  exact ⟨r, by simp only [mFor, h1, h2, Option.bind_some], q⟩
theorem u_g {i : Nat} {x : PV} {e' : Env} {Q : Env → Prop} (h : store i x env = some e') (q : Q e') : WG (store i) x env Q := ⟨e', h, q⟩
theorem u_gs {is : List Nat} {x : PV} {e' : Env} {Q : Env → Prop} (h : mNames is x env = some e') (q : Q e') : WG (mNames is) x env Q := ⟨e', h, q⟩
/-- a loop by what holds behind the taken part -/
theorem u_forM {gg : MG} {s : MS} {α : Type} (k : α → D) (I : List α → Env → Prop) (l : List α) {e : Env} (h0 : I [] e) (hs : ∀ d x r e, l = d ++ x :: r → I d e → WG gg (.d (k x)) e fun e1 => WS s e1 (turn (I (d ++ [x])) QS)) (h1 : ∀ e, I l e → QS (.nx e)) : WS (forL gg s (l.map k)) e QS := by
  have go : ∀ (r d : List α) (e : Env), l = d ++ r → I d e → WS (forL gg s (r.map k)) e QS := by
    intro r
    induction r with
    | nil => intro d e hl hi; rw [List.append_nil] at hl; subst hl; exact ⟨_, rfl, h1 e hi⟩
    | cons x r ih =>
      intro d e hl hi
      obtain ⟨e1, h2, rs, h3, h4⟩ := hs d x r e hl hi
      have unf : ∀ rr, (match rs with
        | .nx e2 => forL gg s (r.map k) e2
        | .ct e2 => forL gg s (r.map k) e2
        | .bk e2 => some (.nx e2)
        | .ret v e2 => some (.ret v e2)) = some rr → forL gg s ((x :: r).map k) e = some rr := fun rr z => by
        rw [List.map_cons]
        unfold forL
        rw [h2, Option.bind_some, h3]
        exact z
      cases rs with
      | nx e2 => obtain ⟨rr, k1, k2⟩ := ih (d ++ [x]) e2 (by simp [hl]) h4; exact ⟨rr, unf rr k1, k2⟩
      | ct e2 => obtain ⟨rr, k1, k2⟩ := ih (d ++ [x]) e2 (by simp [hl]) h4; exact ⟨rr, unf rr k1, k2⟩
      | bk e2 => exact ⟨_, unf _ rfl, h4⟩
      | ret v e2 => exact ⟨_, unf _ rfl, h4⟩
  exact go l [] e rfl h0
theorem u_forI {gg : MG} {s : MS} (I : Nat → Env → Prop) (xs : List D) {e : Env} (h0 : I 0 e) (hs : ∀ i x e, xs[i]? = some x → I i e → WG gg (.d x) e fun e1 => WS s e1 (turn (I (i + 1)) QS)) (h1 : ∀ e, I xs.length e → QS (.nx e)) : WS (forL gg s xs) e QS := by
  have z := u_forM (gg := gg) (s := s) (QS := QS) (fun d : D => d) (fun d e => I d.length e) xs (e := e) h0 (fun d x r e hl hi => by
    have := hs d.length x e (by rw [hl]; simp) hi
    rw [List.length_append, List.length_singleton]
    exact this) h1
  rw [List.map_id'] at z
  exact z
theorem u_comp {own : List (Str × Nat)} {gg : MG} {it : MI} {t : MT} {elt : ME} {α : Type} (k : α → D) (l : List α) (I : List α → List D → Env → Prop) (h : W it env fun ds e => ds = l.map k ∧ I [] [] (wipeE e (own.map (·.2))) ∧
    (∀ d x r acc e, l = d ++ x :: r → I d acc e → WG gg (.d (k x)) e fun e1 => W t e1 fun b e2 => (b = true → W elt e2 fun y e3 => ∃ dd, fz y = some dd ∧ acc.length < 100000 ∧ I (d ++ [x]) (acc ++ [dd]) (wipeE e3 (own.map (·.2)))) ∧ (b = false → I (d ++ [x]) acc (wipeE e2 (own.map (·.2))))) ∧
    ∀ acc e', I l acc e' → Q (.new (.lst acc)) (restE e e' (own.map (·.2)))) : W (mCompN own gg it t elt) env Q := by
  obtain ⟨ds, e0, hit, rfl, h0, hs, h1⟩ := h
  have go : ∀ (r d : List α) (acc : List D) (e : Env), l = d ++ r → I d acc e → ∃ acc' e', compL (own.map (·.2)) gg t elt (r.map k) e acc = some (acc', e') ∧ I l acc' e' := by
    intro r
    induction r with
    | nil => intro d acc e hl hi; rw [List.append_nil] at hl; subst hl; exact ⟨acc, e, by simp [compL], hi⟩
    | cons x r ih =>
      intro d acc e hl hi
      obtain ⟨e1, h2, b, e2, h3, h4, h5⟩ := hs d x r acc e hl hi
      cases b with
      | true =>
        obtain ⟨y, e3, h6, dd, h7, h8, h9⟩ := h4 rfl
        obtain ⟨acc', e', k1, k2⟩ := ih (d ++ [x]) _ _ (by simp [hl]) h9
        refine ⟨acc', e', ?_, k2⟩
        rw [List.map_cons]
        unfold compL
        rw [h2, Option.bind_some, h3, Option.bind_some]
        dsimp only
        rw [if_pos rfl, h6, Option.bind_some]
        dsimp only
        rw [h7, Option.bind_some, if_pos h8, k1]
      | false =>
        obtain ⟨acc', e', k1, k2⟩ := ih (d ++ [x]) _ _ (by simp [hl]) (h5 rfl)
        refine ⟨acc', e', ?_, k2⟩
        rw [List.map_cons]
        unfold compL
        rw [h2, Option.bind_some, h3, Option.bind_some]
        dsimp only
        rw [if_neg (by simp), k1]
  obtain ⟨acc', e', k1, k2⟩ := go l [] [] _ rfl h0
  exact ⟨_, _, by simp only [mCompN, mComp, hit, k1, Option.bind_some], h1 _ _ k2⟩
theorem u_fn {np n : Nat} {body : MS} {svs : List SV} {Q : PV → List (Option Ob) → Prop} (hl : svs.length = np) (h : WS body (svs.map some ++ List.replicate n none) (fin svs Q)) : WF (runFn np n body) svs Q := by
  obtain ⟨r, h1, h2⟩ := h
  cases r with
  | nx e => obtain ⟨os, h3, q⟩ := h2; exact ⟨_, _, by simp only [runFn, hl, if_true, h1, h3, Option.bind_some], q⟩
  | ret v e => obtain ⟨os, h3, q⟩ := h2; exact ⟨_, _, by simp only [runFn, hl, if_true, h1, h3, Option.bind_some], q⟩
  | bk e => exact h2.elim
  | ct e => exact h2.elim
theorem WF.of {F : Fn} {svs : List SV} {r : PV} {outs : List (Option Ob)} {Q : PV → List (Option Ob) → Prop} (h : F svs = some (r, outs)) (q : Q r outs) : WF F svs Q := ⟨r, outs, h, q⟩
/-! iterables -/
theorem u_iter {Q : List D → Env → Prop} (h : W a env fun x e => ∃ ds, (match x with
    | .d (.list ds) => some ds
    | .new (.lst ds) => some ds
    | .d (.tuple ds) => some ds
    | .d (.str z) => some (z.cps.toList.map fun c => .str ⟨#[c]⟩)
    | _ => none) = some ds ∧ Q ds e) : W (mIter a) env Q := by
  obtain ⟨x, e, h1, ds, h2, q⟩ := h
  refine ⟨ds, e, ?_, q⟩
  simp only [mIter, h1, Option.bind_some]
  split at h2 <;> first | (cases h2; rfl) | cases h2
theorem u_enum {ma : MA} {Q : List D → Env → Prop} (h : W ma env fun x e => ∃ ds, (match x with
    | [.d (.list ds)] => some ds
    | [.new (.lst ds)] => some ds
    | [.d (.tuple ds)] => some ds
    | _ => none) = some ds ∧ Q (enumD 0 ds) e) : W (mEnum ma) env Q := by
  obtain ⟨x, e, h1, ds, h2, q⟩ := h
  refine ⟨enumD 0 ds, e, ?_, q⟩
  simp only [mEnum, h1, Option.bind_some]
  split at h2 <;> first | (cases h2; rfl) | cases h2
theorem u_range1 {ma : MA} {Q : List D → Env → Prop} (h : W ma env fun x e => ∃ j : Int, x = [.d (.int j)] ∧ (-1000000 ≤ j ∧ j < 1000000) ∧ Q (rangeD 0 j.toNat) e) : W (mRange1 ma) env Q := by
  obtain ⟨x, e, h1, j, rfl, h2, q⟩ := h
  refine ⟨_, e, ?_, q⟩
  have t : (1000000 : Int) ≤ 2 ^ 62 := by decide
  simp only [mRange1, h1, Option.bind_some]
  generalize (2 ^ 62 : Int) = u at *
  rw [if_pos (by omega)]
theorem u_range2 {ma : MA} {Q : List D → Env → Prop} (h : W ma env fun x e => ∃ i j : Int, x = [.d (.int i), .d (.int j)] ∧ ((-1000000 ≤ i ∧ i < 1000000) ∧ -1000000 ≤ j ∧ j < 1000000) ∧ Q (rangeD i (j - i).toNat) e) : W (mRange2 ma) env Q := by
  obtain ⟨x, e, h1, i, j, rfl, h2, q⟩ := h
  refine ⟨_, e, ?_, q⟩
  have t : (1000000 : Int) ≤ 2 ^ 62 := by decide
  simp only [mRange2, h1, Option.bind_some]
  generalize (2 ^ 62 : Int) = u at *
  rw [if_pos (by omega)]
end
end Ol
namespace Ol
open PySem PySem.Spec PyProof.Rows L2
section
variable {env e : Env} {v : PV} {t : MS} {I : Env → Prop} {QS : Rs → Prop} {Q : PV → List (Option Ob) → Prop} {svs : List SV}
theorem u_thn (h : WS t e QS) : thn t QS (.nx e) := h
theorem u_thnR (h : QS (.ret v e)) : thn t QS (.ret v e) := h
theorem u_turn (h : I e) : turn I QS (.nx e) := h
theorem u_turnR (h : QS (.ret v e)) : turn I QS (.ret v e) := h
theorem u_finN (h : ∃ os, outsOf e 0 svs = some os ∧ Q (.d .none) os) : fin svs Q (.nx e) := h
theorem u_finR (h : ∃ os, outsOf e 0 svs = some os ∧ Q v os) : fin svs Q (.ret v e) := h
theorem u_mayVar {i : Nat} {Q : PV → Env → Prop} (h : W (mVar i) env Q) : W (mVar i) env Q := h
theorem u_mayWG {g : MG} {x : PV} {Q : Env → Prop} (h : WG g x env Q) : WG g x env Q := h
theorem u_mayWF {F : Fn} (h : WF F svs Q) : WF F svs Q := h
theorem u_svs1 {F : Fn} {s0 : SV} {x0 : Bool} (w : WF F [s0] Q) : WF F (List.map (fun x => x.1) [(s0, x0)]) Q := w
theorem u_svs2 {F : Fn} {s0 s1 : SV} {x0 x1 : Bool} (w : WF F [s0, s1] Q) : WF F (List.map (fun x => x.1) [(s0, x0), (s1, x1)]) Q := w
theorem u_svs3 {F : Fn} {s0 s1 s2 : SV} {x0 x1 x2 : Bool} (w : WF F [s0, s1, s2] Q) : WF F (List.map (fun x => x.1) [(s0, x0), (s1, x1), (s2, x2)]) Q := w
theorem u_svs4 {F : Fn} {s0 s1 s2 s3 : SV} {x0 x1 x2 x3 : Bool} (w : WF F [s0, s1, s2, s3] Q) : WF F (List.map (fun x => x.1) [(s0, x0), (s1, x1), (s2, x2), (s3, x3)]) Q := w
theorem u_svs5 {F : Fn} {s0 s1 s2 s3 s4 : SV} {x0 x1 x2 x3 x4 : Bool} (w : WF F [s0, s1, s2, s3, s4] Q) : WF F (List.map (fun x => x.1) [(s0, x0), (s1, x1), (s2, x2), (s3, x3), (s4, x4)]) Q := w
theorem u_svs6 {F : Fn} {s0 s1 s2 s3 s4 s5 : SV} {x0 x1 x2 x3 x4 x5 : Bool} (w : WF F [s0, s1, s2, s3, s4, s5] Q) : WF F (List.map (fun x => x.1) [(s0, x0), (s1, x1), (s2, x2), (s3, x3), (s4, x4), (s5, x5)]) Q := w
theorem u_svs7 {F : Fn} {s0 s1 s2 s3 s4 s5 s6 : SV} {x0 x1 x2 x3 x4 x5 x6 : Bool} (w : WF F [s0, s1, s2, s3, s4, s5, s6] Q) : WF F (List.map (fun x => x.1) [(s0, x0), (s1, x1), (s2, x2), (s3, x3), (s4, x4), (s5, x5), (s6, x6)]) Q := w
theorem u_svs8 {F : Fn} {s0 s1 s2 s3 s4 s5 s6 s7 : SV} {x0 x1 x2 x3 x4 x5 x6 x7 : Bool} (w : WF F [s0, s1, s2, s3, s4, s5, s6, s7] Q) : WF F (List.map (fun x => x.1) [(s0, x0), (s1, x1), (s2, x2), (s3, x3), (s4, x4), (s5, x5), (s6, x6), (s7, x7)]) Q := w
theorem sp_tt {X Y : Prop} (x : X) : (true = true → X) ∧ (true = false → Y) := ⟨fun _ => x, fun h => nomatch h⟩
theorem sp_ff {X Y : Prop} (y : Y) : (false = true → X) ∧ (false = false → Y) := ⟨fun h => (nomatch h), fun _ => y⟩
theorem sp_t {b : Bool} {X Y : Prop} (h : b = true) (x : X) : (b = true → X) ∧ (b = false → Y) := ⟨fun _ => x, fun z => by rw [h] at z; cases z⟩
theorem sp_f {b : Bool} {X Y : Prop} (h : b = false) (y : Y) : (b = true → X) ∧ (b = false → Y) := ⟨fun z => (by rw [h] at z; cases z), fun _ => y⟩
theorem o_addS {a b : Str} (h : a.length + b.length ≤ 100000) : oAdd (.d (.str a)) (.d (.str b)) = some (.d (.str (a ++ b))) := by simp [h]
theorem o_addT {a b : List D} (h : a.length + b.length ≤ 100000) : oAdd (.d (.tuple a)) (.d (.tuple b)) = some (.d (.tuple (a ++ b))) := by simp [h]
theorem o_addL {a b : List D} (h : a.length + b.length ≤ 100000) : oAdd (.d (.list a)) (.d (.list b)) = some (.new (.lst (a ++ b))) := by simp [h]
theorem f_append {a : List D} {d : D} (h : a.length < 100000) : fAppend (.lst a) [d] = some (.d .none, .lst (a ++ [d])) := by simp [h]
theorem o_div {i j : Int} (h : 0 < j) (h1 : j < 1073741824) : oDiv (.d (.int i)) (.d (.int j)) = some (.d (.int (i / j))) := by
  have g : CDiv i j := ⟨h, h1⟩
  simp [g]
theorem o_mod {i j : Int} (h : 0 < j) : oMod (.d (.int i)) (.d (.int j)) = some (.d (.int (i % j))) := by simp [h]
theorem o_eqI {i j : Int} : oEq (.d (.int i)) (.d (.int j)) = some (.d (.bool (i == j))) := by simp
theorem o_neI {i j : Int} : oNe (.d (.int i)) (.d (.int j)) = some (.d (.bool (!(i == j)))) := by simp
theorem o_eqS {i j : Str} (h1 : PyData.strOk i = true) (h2 : PyData.strOk j = true) : oEq (.d (.str i)) (.d (.str j)) = some (.d (.bool (i == j))) := by simp [h1, h2]
end
end Ol
namespace Ol
open PySem PySem.Spec PyProof.Rows L2
section
variable {b : Bool} {X Y : Prop} {p : Prop} [Decidable p] {α : Type} [BEq α] [LawfulBEq α] {u v : α}
theorem sp_b (h1 : b = true → X) (h2 : b = false → Y) : (b = true → X) ∧ (b = false → Y) := ⟨h1, h2⟩
theorem sp_nt (h : b = false) (x : X) : ((!b) = true → X) ∧ ((!b) = false → Y) := ⟨fun _ => x, fun z => by rw [h] at z; cases z⟩
theorem sp_nf (h : b = true) (y : Y) : ((!b) = true → X) ∧ ((!b) = false → Y) := ⟨fun z => (by rw [h] at z; cases z), fun _ => y⟩
theorem sp_d (h1 : p → X) (h2 : ¬ p → Y) : (decide p = true → X) ∧ (decide p = false → Y) := ⟨fun h => h1 (of_decide_eq_true h), fun h => h2 (of_decide_eq_false h)⟩
theorem sp_dt (h : p) (x : X) : (decide p = true → X) ∧ (decide p = false → Y) := ⟨fun _ => x, fun z => absurd h (of_decide_eq_false z)⟩
theorem sp_df (h : ¬ p) (y : Y) : (decide p = true → X) ∧ (decide p = false → Y) := ⟨fun z => absurd (of_decide_eq_true z) h, fun _ => y⟩
theorem sp_nd (h1 : ¬ p → X) (h2 : p → Y) : ((!decide p) = true → X) ∧ ((!decide p) = false → Y) := ⟨fun h => h1 (by simpa using h), fun h => h2 (by simpa using h)⟩
theorem sp_e (h1 : u = v → X) (h2 : ¬ u = v → Y) : ((u == v) = true → X) ∧ ((u == v) = false → Y) := ⟨fun h => h1 (by simpa using h), fun h => h2 (by simpa using h)⟩
theorem sp_et (h : u = v) (x : X) : ((u == v) = true → X) ∧ ((u == v) = false → Y) := ⟨fun _ => x, fun z => absurd h (by simpa using z)⟩
theorem sp_ef (h : ¬ u = v) (y : Y) : ((u == v) = true → X) ∧ ((u == v) = false → Y) := ⟨fun z => absurd (by simpa using z) h, fun _ => y⟩
theorem sp_ne (h1 : ¬ u = v → X) (h2 : u = v → Y) : ((!(u == v)) = true → X) ∧ ((!(u == v)) = false → Y) := ⟨fun h => h1 (by simpa using h), fun h => h2 (by simpa using h)⟩
theorem sp_xf (h1 : p → X) (h2 : ¬ p → Y) : ((false ^^ decide p) = true → X) ∧ ((false ^^ decide p) = false → Y) := ⟨fun h => h1 (by simpa using h), fun h => h2 (by simpa using h)⟩
theorem sp_xt (h1 : ¬ p → X) (h2 : p → Y) : ((true ^^ decide p) = true → X) ∧ ((true ^^ decide p) = false → Y) := ⟨fun h => h1 (by simpa using h), fun h => h2 (by simpa using h)⟩
end
theorem store_om {i : Nat} {x : PV} {e : Env} {sv : SV} {o : Option D} (h : sget e i = o.map SV.d) (hs : svOf x = some sv) : store i x e = some (sset e i (some sv)) := by
  unfold store
  rw [h]
  cases o <;> simp only [Option.map, hs, Option.bind_some]
end Ol
namespace Ol
open PySem PySem.Spec PyProof.Rows L2
theorem may_pop {o : Ob} {ds : List D} {r : PV × Ob} (h : fPopAt o ds = some r) : fPopAt o ds = some r := h
theorem map_erase (l : List Str) : ∀ j, (l.map PyData.str).eraseIdx j = (l.eraseIdx j).map PyData.str := by
  induction l with
  | nil => intro j; rfl
  | cons a r ih => intro j; cases j with
    | zero => rfl
    | succ j => simp [ih]
def gt (l : List Str) (i : Int) : Str := l.getD i.toNat ⟨#[]⟩
def dropAt (l : List Str) (i : Int) : List Str := l.eraseIdx i.toNat
/-- a popped place -/
theorem f_popAt {rest : List Str} {i : Int} (h0 : 0 ≤ i) (h1 : i < (rest.length : Nat)) (hl : rest.length ≤ 100000) : fPopAt (.lst (rest.map .str)) [.int i] = some (.d (.str (gt rest i)), .lst ((dropAt rest i).map .str)) := by
  obtain ⟨k, rfl⟩ : ∃ k : Nat, i = k := ⟨i.toNat, by omega⟩
  have hk : k < rest.length := by omega
  have t : (100000 : Int) < 2 ^ 63 ∧ -(2 ^ 63 : Int) ≤ 0 := by decide
  unfold fPopAt
  dsimp only
  rw [if_pos ⟨by omega, by omega⟩]
  have q : seqIndex? (k : Nat) (rest.map PyData.str).length = some k := by
    unfold seqIndex?
    simp
    omega
  rw [q, Option.bind_some, List.getElem?_map, List.getElem?_eq_getElem hk]
  simp [map_erase, gt, dropAt, hk]
theorem gt_at {rest : List Str} {i : Int} (h0 : 0 ≤ i) (h1 : i < (rest.length : Nat)) : rest[i.toNat]? = some (gt rest i) := by
  have hk : i.toNat < rest.length := by omega
  simp [gt, hk]
theorem gt_mem {rest : List Str} {i : Int} (h0 : 0 ≤ i) (h1 : i < (rest.length : Nat)) : gt rest i ∈ rest := List.mem_of_getElem? (gt_at h0 h1)
theorem dropAt_len {rest : List Str} {i : Int} (h0 : 0 ≤ i) (h1 : i < (rest.length : Nat)) : (dropAt rest i).length = rest.length - 1 := by
  unfold dropAt
  rw [List.length_eraseIdx]
  split <;> omega
theorem perm_at : ∀ {l : List Str} {i : Nat} {c : Str}, l[i]? = some c → List.Perm l (c :: l.eraseIdx i)
  | [], _, _, h => by cases h
  | x :: r, 0, c, h => by
    have e : x = c := Option.some.inj h
    subst e
    exact List.Perm.refl _
  | x :: r, i + 1, c, h => ((perm_at (l := r) (i := i) h).cons x).trans (.swap _ _ _)
theorem gt_perm {rest : List Str} {i : Int} (h0 : 0 ≤ i) (h1 : i < (rest.length : Nat)) : List.Perm rest (gt rest i :: dropAt rest i) := perm_at (gt_at h0 h1)
end Ol
namespace Ol
open PySem PySem.Spec PyProof.Rows L2
theorem ix_evI {y : Str} : oIx (.d (ev (some y))) (.d (.int 0)) = some (.d (.str "in")) := rfl
theorem ix_evC {y : Str} : oIx (.d (ev (some y))) (.d (.int 1)) = some (.d (.str y)) := rfl
theorem ix_evO : oIx (.d (ev none)) (.d (.int 0)) = some (.d (.str "out")) := rfl
theorem o_eqII : oEq (.d (.str "in")) (.d (.str "in")) = some (.d (.bool true)) := by rw [o_eqS ok_in ok_in]; rfl
theorem o_eqOI : oEq (.d (.str "out")) (.d (.str "in")) = some (.d (.bool false)) := by rw [o_eqS ok_out ok_in]; rfl
theorem o_eqIO : oEq (.d (.str "in")) (.d (.str "out")) = some (.d (.bool false)) := by rw [o_eqS ok_in ok_out]; rfl
theorem o_eqOO : oEq (.d (.str "out")) (.d (.str "out")) = some (.d (.bool true)) := by rw [o_eqS ok_out ok_out]; rfl
theorem sIx_none (n d : Nat) : HT.sIx n d none = d := rfl
theorem cut_m1 (ds : List D) : cutD ds none (some (-1)) = ds.dropLast := by
  unfold cutD
  rw [sIx_none]
  have : HT.sIx ds.length ds.length (some (-1)) = ds.length - 1 := by
    unfold HT.sIx
    simp
    omega
  rw [this]
  simp [HT.sIx, List.dropLast_eq_take]
theorem sIx_natW (n d k : Nat) (h : k ≤ n) : HT.sIx n d (some ((k : Nat) : Int)) = k := by
  have q : ¬ ((k : Nat) : Int) < 0 := by omega
  simp [HT.sIx, q]
  omega
theorem sIx_hi (n d : Nat) (i : Int) (h : 0 ≤ i) (h2 : i ≤ n) : HT.sIx n d (some i) = i.toNat := by
  obtain ⟨k, rfl⟩ : ∃ k : Nat, i = k := ⟨i.toNat, by omega⟩
  rw [sIx_natW n d k (by omega)]
  rfl
theorem cut_to (ds : List D) (i : Int) (h : 0 ≤ i) (h2 : i ≤ ds.length) : cutD ds none (some i) = ds.take i.toNat := by
  unfold cutD
  rw [sIx_hi _ _ i h h2, sIx_none]
  simp
theorem cut_from (ds : List D) (i : Int) (h : 0 ≤ i) (h2 : i ≤ ds.length) : cutD ds (some i) none = ds.drop i.toNat := by
  unfold cutD
  rw [sIx_hi _ _ i h h2, sIx_none]
  exact List.take_of_length_le (by simp)
end Ol
namespace Ol
open PySem PySem.Spec PyProof.Rows L2
def inx (I : Env → Prop) : Rs → Prop
  | .nx e => I e
  | _ => False
theorem u_inx {I : Env → Prop} {e : Env} (h : I e) : inx I (.nx e) := h
theorem u_seqI {s t : MS} {env : Env} {QS : Rs → Prop} (I : Env → Prop) (h : WS s env (inx I)) (k : ∀ e, I e → WS t e QS) : WS (mSeq s t) env QS := by
  obtain ⟨r, h1, h2⟩ := h
  cases r with
  | nx e => obtain ⟨r', h3, q⟩ := k e h2; exact ⟨r', by simp only [mSeq, h1, h3, Option.bind_some], q⟩
  | ret v e => exact h2.elim
  | bk e => exact h2.elim
  | ct e => exact h2.elim
theorem o_ixS {l : List Str} {i : Int} (h0 : 0 ≤ i) (h1 : i < (l.length : Nat)) : oIx (.d (.list (l.map .str))) (.d (.int i)) = some (.d (.str (gt l i))) := by
  obtain ⟨k, rfl⟩ : ∃ k : Nat, i = k := ⟨i.toNat, by omega⟩
  refine ix_nat _ k _ ?_
  have := gt_at h0 h1
  simp only [Int.toNat_natCast] at this
  rw [List.getElem?_map, this]
  rfl
theorem o_ixT {l : List Str} {i : Int} (h0 : 0 ≤ i) (h1 : i < (l.length : Nat)) : oIx (.d (sD l)) (.d (.int i)) = some (.d (.str (gt l i))) := by
  obtain ⟨k, rfl⟩ : ∃ k : Nat, i = k := ⟨i.toNat, by omega⟩
  refine ix_natT _ k _ ?_
  have := gt_at h0 h1
  simp only [Int.toNat_natCast] at this
  rw [List.getElem?_map, this]
  rfl
theorem f_setS {l : List Str} {i : Int} {y : Str} (h0 : 0 ≤ i) (h1 : i < (l.length : Nat)) : fSetL (.lst (l.map .str)) (.int i) (.str y) = some (.lst ((l.set i.toNat y).map .str)) := by
  obtain ⟨k, rfl⟩ : ∃ k : Nat, i = k := ⟨i.toNat, by omega⟩
  have hk : k < l.length := by omega
  have q : ixN (l.map PyData.str).length (k : Nat) = some k := by
    unfold ixN
    simp
    omega
  show (ixN (l.map PyData.str).length (k : Nat)).bind (fun j => some (Ob.lst ((l.map PyData.str).set j (.str y)))) = _
  rw [q, Option.bind_some]
  simp [List.map_set]
theorem shStrs {l : List Str} (h : ∀ x ∈ l, PyData.strOk x = true) : SeqAt.shaped (.list (l.map .str)) = true := by
  have h1 : ∀ l : List Str, (∀ x ∈ l, PyData.strOk x = true) → PyData.canLayAll0 (l.map PyData.str) = true := by
    intro l
    induction l with
    | nil => intro _; rfl
    | cons a r ih => intro h; simp [PyData.canLayAll0, PyData.canLay0, h a List.mem_cons_self]; exact ih fun x hx => h x (List.mem_cons_of_mem _ hx)
  have h2 : ∀ l : List Str, PyData.depthAll (l.map PyData.str) = 0 := by
    intro l
    induction l with
    | nil => rfl
    | cons a r ih => simp [PyData.depthAll, PyData.depth, ih]
  simp [SeqAt.shaped, PyData.canLay0, PyData.depth, h1 l h, h2]
theorem shStrT {l : List Str} (h : ∀ x ∈ l, PyData.strOk x = true) : SeqAt.shaped (sD l) = true := by
  have := shStrs h
  simpa [SeqAt.shaped, PyData.canLay0, PyData.depth] using this
theorem eqv_nilL (l : List Str) : PyData.eqv (.list (l.map .str)) (.list []) = l.isEmpty := by
  cases l <;> simp [PyData.eqv, PyData.eqvAll]
theorem shNil : SeqAt.shaped (.list []) = true := by simp [SeqAt.shaped, PyData.canLay0, PyData.depth, PyData.canLayAll0, PyData.depthAll]
theorem o_neNil {l : List Str} (h : ∀ x ∈ l, PyData.strOk x = true) : oNe (.d (.list (l.map .str))) (.d (.list [])) = some (.d (.bool (!decide (l.length = 0)))) := by
  have h1 := shStrs h
  simp only [oNe, h1, shNil, and_self, if_true, eqv_nilL]
  cases l <;> rfl
theorem o_eqNil {l : List Str} (h : ∀ x ∈ l, PyData.strOk x = true) : oEq (.d (.list (l.map .str))) (.d (.list [])) = some (.d (.bool (decide (l.length = 0)))) := by
  have h1 := shStrs h
  simp only [oEq, h1, shNil, and_self, if_true, eqv_nilL]
  cases l <;> rfl
theorem cut_mid (ds : List D) (i j : Int) (h0 : 0 ≤ i) (h : i ≤ j) (h2 : j ≤ ds.length) : cutD ds (some i) (some j) = (ds.drop i.toNat).take (j - i).toNat := by
  unfold cutD
  rw [sIx_hi _ _ i h0 (by omega), sIx_hi _ _ j (by omega) h2]
  congr 1
  omega
end Ol
namespace Ol
open PySem PySem.Spec PyProof.Rows L2
section
variable {env : Env} {a b : ME} {Q : PV → Env → Prop} {QS : Rs → Prop}
theorem u_idx (h : W a env fun x e1 => ∃ ds ys, x = .d (.tuple ds) ∧ strsOf ds = some ys ∧ W b e1 fun y e2 => ∃ z j, y = .d (.str z) ∧ idxOf ys z = some j ∧ Q (.d (.int (j : Nat))) e2) : W (mIdx a b) env Q := by
  obtain ⟨x, e1, h1, ds, ys, rfl, h2, y, e2, h3, z, j, rfl, h4, q⟩ := h
  exact ⟨_, e2, by simp only [mIdx, h1, h2, h3, h4, Option.bind_some], q⟩
theorem u_listR (h : W a env fun x e => ∃ n : Int, x = .d (.int n) ∧ (0 ≤ n ∧ n ≤ 16777216) ∧ Q (.new (.lst (rangeD 0 n.toNat))) e) : W (mListR a) env Q := by
  obtain ⟨x, e, h1, n, rfl, h2, q⟩ := h
  exact ⟨_, e, by simp only [mListR, h1, h2, and_self, if_true, Option.bind_some], q⟩
theorem u_asgT {is : List Nat} (h : W a env fun x e => ∃ e', mNames is (frT x) e = some e' ∧ QS (.nx e')) : WS (mAsgT is a) env QS := by
  obtain ⟨x, e, h1, e', h2, q⟩ := h
  exact ⟨_, by simp only [mAsgT, h1, h2, Option.bind_some], q⟩
theorem u_ssI (h : W a env fun x e => ∃ r p, rd e x = some r ∧ oSortedI r = some p ∧ Q p e) : W (mSortedSetI a) env Q := u_m1 h
theorem u_ss (h : W a env fun x e => ∃ r p, rd e x = some r ∧ oSorted r = some p ∧ Q p e) : W (mSortedSet a) env Q := u_m1 h
end
theorem o_rev {ds : List D} : oRev (.d (.list ds)) = some (.new (.lst ds.reverse)) := rfl
theorem o_isB {a b : Bool} : oIsB (.d (.bool a)) (.d (.bool b)) = some (.d (.bool (a == b))) := rfl
theorem store_oo {i : Nat} {x : PV} {e : Env} {sv : SV} {o : Option Ob} (h : sget e i = o.map (SV.own false)) (hs : svOf x = some sv) : store i x e = some (sset e i (some sv)) := by
  unfold store
  rw [h]
  cases o <;> simp only [Option.map, hs, Option.bind_some]
theorem stores2 {i j : Nat} {x y : PV} {e e1 e2 : Env} (h1 : store i x e = some e1) (h2 : store j y e1 = some e2) : mNames [i, j] (.tup [x, y]) e = some e2 := by
  show (store i x e).bind (stores [j] [y]) = some e2
  rw [h1]
  show (store j y e1).bind (stores [] []) = some e2
  rw [h2]
  rfl
theorem lend_ok {a b : Bool} (h : b = true) : (a || b) = true := by rw [h]; cases a <;> rfl
theorem nls_strs : ∀ l : List Str, nls (l.map PyData.str) = true
  | [] => rfl
  | x :: l => by simp [nls, nl, nls_strs l]
theorem nls_ints : ∀ l : List Int, nls (l.map PyData.int) = true
  | [] => rfl
  | x :: l => by simp [nls, nl, nls_ints l]
theorem nl_sD (l : List Str) : nl (sD l) = true := by
  show nls (l.map PyData.str) = true
  exact nls_strs l
/-! lists of ints -/
def minI : List Int → Int
  | [] => 0
  | x :: r => minL x r
theorem o_minL {zs : List Int} (h : 0 < zs.length) : oMin [.d (.list (zs.map .int))] = some (.d (.int (minI zs))) := by
  cases zs with
  | nil => simp at h
  | cons x r => simp [oMin, intsOf_ints, intsOf, minI]
theorem minI_le {zs : List Int} {z : Int} (h : z ∈ zs) : minI zs ≤ z := by
  cases zs with
  | nil => cases h
  | cons x r => exact (minL_is r x).2 z h
theorem shInts : ∀ l : List Int, SeqAt.shaped (.list (l.map .int)) = true := by
  intro l
  have h1 : PyData.canLayAll0 (l.map PyData.int) = true := by
    induction l with
    | nil => rfl
    | cons a r ih => simp [PyData.canLayAll0, PyData.canLay0, ih]
  have h2 : PyData.depthAll (l.map PyData.int) = 0 := by
    clear h1
    induction l with
    | nil => rfl
    | cons a r ih => simp [PyData.depthAll, PyData.depth, ih]
  simp [SeqAt.shaped, PyData.canLay0, PyData.depth, h1, h2]
theorem eqv_nilI (l : List Int) : PyData.eqv (.list (l.map .int)) (.list []) = l.isEmpty := by
  cases l <;> simp [PyData.eqv, PyData.eqvAll]
theorem o_neNilI {l : List Int} : oNe (.d (.list (l.map .int))) (.d (.list [])) = some (.d (.bool (!decide (l.length = 0)))) := by
  simp only [oNe, shInts, shNil, and_self, if_true, eqv_nilI]
  cases l <;> rfl
theorem o_eqNilI {l : List Int} : oEq (.d (.list (l.map .int))) (.d (.list [])) = some (.d (.bool (decide (l.length = 0)))) := by
  simp only [oEq, shInts, shNil, and_self, if_true, eqv_nilI]
  cases l <;> rfl
theorem eqvAll_strs : ∀ a b : List Str, PyData.eqvAll (a.map .str) (b.map .str) = decide (a = b)
  | [], [] => by simp [PyData.eqvAll]
  | [], _ :: _ => by simp [PyData.eqvAll]
  | _ :: _, [] => by simp [PyData.eqvAll]
  | x :: a, y :: b => by
    simp only [List.map_cons, PyData.eqvAll, PyData.eqv, eqvAll_strs a b]
    by_cases h : x = y <;> simp [h]
theorem o_eqT {a b : List Str} (h1 : ∀ x ∈ a, PyData.strOk x = true) (h2 : ∀ x ∈ b, PyData.strOk x = true) : oEq (.d (sD a)) (.d (sD b)) = some (.d (.bool (decide (a = b)))) := by
  have e : PyData.eqv (sD a) (sD b) = decide (a = b) := by simp only [PyData.eqv, eqvAll_strs]
  simp only [oEq, shStrT h1, shStrT h2, and_self, if_true, e]
theorem o_neT {a b : List Str} (h1 : ∀ x ∈ a, PyData.strOk x = true) (h2 : ∀ x ∈ b, PyData.strOk x = true) : oNe (.d (sD a)) (.d (sD b)) = some (.d (.bool (!decide (a = b)))) := by
  have e : PyData.eqv (sD a) (sD b) = decide (a = b) := by simp only [PyData.eqv, eqvAll_strs]
  simp only [oNe, shStrT h1, shStrT h2, and_self, if_true, e]
theorem o_eqT0 {a : List Str} (h1 : ∀ x ∈ a, PyData.strOk x = true) : oEq (.d (sD a)) (.d (.tuple [])) = some (.d (.bool (decide (a.length = 0)))) := by
  have z := o_eqT (b := []) h1 (by simp)
  rw [show (PyData.tuple []) = sD [] from rfl, z]
  cases a <;> rfl
/-! sorted(set(..)) of ints -/
theorem mem_sortI {zs : List Int} {x : Int} : x ∈ sortI (dist zs) ↔ x ∈ zs := by
  unfold sortI
  rw [(List.mergeSort_perm _ _).mem_iff]
  exact mem_dist
theorem len_sortI (zs : List Int) : (sortI (dist zs)).length = (dist zs).length := (List.mergeSort_perm _ _).length_eq
theorem nodup_leI : ∀ {a b : List Int}, a.Nodup → (∀ x ∈ a, x ∈ b) → a.length ≤ b.length
  | [], _, _, _ => Nat.zero_le _
  | x :: r, b, nd, h => by
    obtain ⟨n1, n2⟩ := List.nodup_cons.mp nd
    have hx : x ∈ b := h x List.mem_cons_self
    have ih := nodup_leI (b := b.erase x) n2 fun y hy => by
      have : y ≠ x := fun z => n1 (z ▸ hy)
      exact (List.mem_erase_of_ne this).mpr (h y (List.mem_cons_of_mem _ hy))
    rw [List.length_erase_of_mem hx] at ih
    have : 0 < b.length := List.length_pos_of_mem hx
    simp only [List.length_cons]
    omega
theorem dist_bound {zs : List Int} {N : Nat} (h : ∀ x ∈ zs, 0 ≤ x ∧ x ≤ N) : (dist zs).length ≤ N + 1 := by
  have z := nodup_leI (a := dist zs) (b := (List.range (N + 1)).map fun i : Nat => (i : Int)) (nodup_dist zs) fun x hx => by
    obtain ⟨h1, h2⟩ := h x (mem_dist.mp hx)
    exact List.mem_map.mpr ⟨x.toNat, List.mem_range.mpr (by omega), by omega⟩
  simpa using z
theorem o_ssI {zs : List Int} {N : Nat} (hN : N ≤ 60) (hl : zs.length ≤ 1000) (h : ∀ x ∈ zs, 0 ≤ x ∧ x ≤ N) : oSortedI (.d (.list (zs.map .int))) = some (.new (.lst ((sortI (dist zs)).map .int))) := by
  have hb := dist_bound h
  show (intsOf (zs.map .int)).bind _ = _
  rw [intsOf_ints, Option.bind_some, if_pos ⟨Nat.lt_of_le_of_lt (by omega : zs.length + 1 ≤ 1001) (by decide +kernel), by omega⟩]
end Ol
set_option Elab.async false
set_option linter.all false
set_option maxRecDepth 100000
set_option maxHeartbeats 4000000
/-! own: more of what must hold (comprehensions by a walk of each element, ..) -/
namespace Ol
open PySem PySem.Spec PyProof.Rows L2
theorem u_range3 {env : Env} {ma : MA} {Q : List D → Env → Prop} (h : W ma env fun x e => ∃ i j : Int, x = [.d (.int i), .d (.int j), .d (.int (-1))] ∧ ((-1000000 ≤ i ∧ i < 1000000) ∧ -1000000 ≤ j ∧ j < 1000000) ∧ Q (downD i (i - j).toNat) e) : W (mRange3 ma) env Q := by
  obtain ⟨x, e, h1, i, j, rfl, hb, q⟩ := h
  refine ⟨_, e, ?_, q⟩
  have t : (1000000 : Int) ≤ 2 ^ 62 := by decide
  simp only [mRange3, h1, Option.bind_some]
  generalize (2 ^ 62 : Int) = u at *
  rw [if_pos (by simp only [true_and]; omega)]
/-- a comprehension that filters: each element by its own walk -/
theorem u_filtW {own : List (Str × Nat)} {gg : MG} {it : MI} {t : MT} {elt : ME} {env : Env} {Q : PV → Env → Prop} {α : Type} (k : α → D) (xs : List α) (pb : α → Bool) (fd : α → D)
    (h : W it env fun ds e => ds = xs.map k ∧ (∀ x ∈ xs, WG gg (.d (k x)) (wipeE e (own.map (·.2))) fun e1 => W t e1 fun b e2 => b = pb x ∧ ((pb x = true → W elt e2 fun y e3 => fz y = some (fd x) ∧ wipeE e3 (own.map (·.2)) = wipeE e (own.map (·.2))) ∧ (pb x = false → wipeE e2 (own.map (·.2)) = wipeE e (own.map (·.2))))) ∧ xs.length ≤ 100000 ∧ Q (.new (.lst ((xs.filter pb).map fd))) (restE e (wipeE e (own.map (·.2))) (own.map (·.2)))) : W (mCompN own gg it t elt) env Q := by
  obtain ⟨ds, e, hit, rfl, hx, hl, q⟩ := h
  refine u_comp k xs (fun d acc e' => e' = wipeE e (own.map (·.2)) ∧ acc = (d.filter pb).map fd) ⟨_, e, hit, rfl, ⟨rfl, rfl⟩, ?_, ?_⟩
  · rintro d x r acc e0 hd ⟨rfl, rfl⟩
    have hm : x ∈ xs := by rw [hd]; simp
    obtain ⟨e1, g1, b, e2, g2, rfl, g3, g4⟩ := hx x hm
    have hdl : d.length < xs.length := by rw [hd]; simp
    refine ⟨e1, g1, _, e2, g2, fun hb => ?_, fun hb => ?_⟩
    · obtain ⟨y, e3, k1, k2, k3⟩ := g3 hb
      refine ⟨y, e3, k1, _, k2, ?_, k3, ?_⟩
      · rw [List.length_map]
        have := List.length_filter_le pb d
        omega
      · rw [List.filter_append, List.map_append]
        simp [hb]
    · refine ⟨g4 hb, ?_⟩
      rw [List.filter_append, List.map_append]
      simp [hb]
  · rintro acc e' ⟨rfl, rfl⟩
    exact q
/-- .. a dict of new keys -/
theorem u_dcompW {own : List (Str × Nat)} {g : MG} {it : MI} {ek evv : ME} {env : Env} {Q : PV → Env → Prop} {α : Type} (k : α → D) (xs : List α) (key : α → Key) (val : α → D)
    (h : W it env fun ds e => ds = xs.map k ∧ (∀ x ∈ xs, WG g (.d (k x)) (wipeE e (own.map (·.2))) fun e1 => W ek e1 fun y e2 => ∃ kd, fz y = some kd ∧ keyOf kd = some (key x) ∧ W evv e2 fun z e3 => fz z = some (val x) ∧ wipeE e3 (own.map (·.2)) = wipeE e (own.map (·.2))) ∧ (xs.map key).Nodup ∧ xs.length ≤ 100000 ∧ Q (.new (.dic (xs.map fun x => (key x, val x)))) (restE e (wipeE e (own.map (·.2))) (own.map (·.2)))) : W (mDCompN own g it mYes ek evv) env Q := by
  obtain ⟨ds, e, hit, rfl, hx, nd, hl, q⟩ := h
  have go : ∀ (r : List α) (acc : List (Key × D)), (∀ x ∈ r, x ∈ xs) → (acc.map (·.1) ++ r.map key).Nodup → acc.length + r.length ≤ 100000 → compDL (own.map (·.2)) g mYes ek evv (r.map k) (wipeE e (own.map (·.2))) acc = some (acc ++ r.map fun x => (key x, val x), wipeE e (own.map (·.2))) := by
    intro r
    induction r with
    | nil => intro acc _ _ _; simp [compDL]
    | cons x r ih =>
      intro acc hs hn hz
      obtain ⟨e1, g1, y, e2, g2, kd, g3, g4, z, e3, g5, g6, g7⟩ := hx x (hs x List.mem_cons_self)
      rw [List.length_cons] at hz
      have hn' : key x ∉ acc.map (·.1) := fun hm => (List.nodup_append.mp hn).2.2 _ hm _ (by simp) rfl
      rw [List.map_cons]
      unfold compDL
      simp only [g1, mYes, g2, g3, g4, g5, g6, Option.bind_some, if_true]
      rw [if_pos (by omega), g7, putD_new hn', ih _ (fun y hy => hs y (List.mem_cons_of_mem _ hy)) (by simpa using hn) (by simp; omega)]
      simp
  refine ⟨_, _, ?_, q⟩
  unfold mDCompN mDComp
  rw [hit]
  simp only [Option.bind_some]
  rw [go xs [] (fun _ h => h) (by simpa using nd) (by simpa using hl)]
  simp
/-- a comprehension with two fors, without conditions -/
theorem u_comp2W {own : List (Str × Nat)} {vs1 : List Nat} {g g1 : MG} {it it1 : MI} {elt : ME} {env : Env} {Q : PV → Env → Prop} {α β : Type} (k : α → D) (xs : List α) (k1 : β → D) (ys : α → List β) (fd : α → β → D)
    (h : W it env fun ds e => ds = xs.map k ∧ (∀ x ∈ xs, WG g (.d (k x)) (wipeE e (own.map (·.2))) fun e1 => W it1 e1 fun ds1 e3 => ds1 = (ys x).map k1 ∧ (∀ y ∈ ys x, WG g1 (.d (k1 y)) (wipeE e3 vs1) fun e4 => W elt e4 fun v e6 => fz v = some (fd x y) ∧ wipeE e6 vs1 = wipeE e3 vs1) ∧ wipeE (wipeE e3 vs1) (own.map (·.2)) = wipeE e (own.map (·.2))) ∧ (xs.flatMap ys).length ≤ 100000 ∧ Q (.new (.lst (xs.flatMap fun x => (ys x).map (fd x)))) (restE e (wipeE e (own.map (·.2))) (own.map (·.2)))) : W (mComp2 own vs1 g it mYes g1 it1 mYes elt) env Q := by
  obtain ⟨ds, e, hit, rfl, hx, hl, q⟩ := h
  have inner : ∀ (x : α) (e3 : Env) (r : List β) (acc : List D), (∀ y ∈ r, WG g1 (.d (k1 y)) (wipeE e3 vs1) fun e4 => W elt e4 fun v e6 => fz v = some (fd x y) ∧ wipeE e6 vs1 = wipeE e3 vs1) → acc.length + r.length ≤ 100000 → compL vs1 g1 mYes elt (r.map k1) (wipeE e3 vs1) acc = some (acc ++ r.map (fd x), wipeE e3 vs1) := by
    intro x e3 r
    induction r with
    | nil => intro acc _ _; simp [compL]
    | cons y r ih =>
      intro acc hy hz
      obtain ⟨e4, g4, v, e6, g6, g7, g8⟩ := hy y List.mem_cons_self
      rw [List.length_cons] at hz
      rw [List.map_cons]
      unfold compL
      simp only [g4, mYes, g6, g7, Option.bind_some, if_true]
      rw [if_pos (by omega), g8, ih _ (fun z hz => hy z (List.mem_cons_of_mem _ hz)) (by simp; omega)]
      simp
  have go : ∀ (r : List α) (acc : List D), (∀ x ∈ r, x ∈ xs) → acc.length + (r.flatMap ys).length ≤ 100000 → compM (own.map (·.2)) vs1 g mYes it1 g1 mYes elt (r.map k) (wipeE e (own.map (·.2))) acc = some (acc ++ r.flatMap fun x => (ys x).map (fd x), wipeE e (own.map (·.2))) := by
    intro r
    induction r with
    | nil => intro acc _ _; simp [compM]
    | cons x r ih =>
      intro acc hs hz
      obtain ⟨e1, g1', ds1, e3, g2, rfl, g3, g4⟩ := hx x (hs x List.mem_cons_self)
      rw [List.flatMap_cons, List.length_append] at hz
      rw [List.map_cons]
      unfold compM
      simp only [g1', mYes, Option.bind_some, if_true, g2]
      rw [inner x e3 (ys x) acc g3 (by omega)]
      simp only [Option.bind_some]
      rw [g4, ih _ (fun y hy => hs y (List.mem_cons_of_mem _ hy)) (by rw [List.length_append, List.length_map]; omega)]
      simp
  refine ⟨_, _, ?_, q⟩
  unfold mComp2
  rw [hit]
  simp only [Option.bind_some]
  rw [go xs [] (fun _ h => h) (by simpa using hl)]
  simp
theorem namesD2 {i j : Nat} {p q : D} {e e1 e2 : Env} (h1 : store i (.d p) e = some e1) (h2 : store j (.d q) e1 = some e2) : mNames [i, j] (.d (.tuple [p, q])) e = some e2 := by
  show (store i (.d p) e).bind (stores [j] [.d q]) = some e2
  rw [h1]
  show (store j (.d q) e1).bind (stores [] []) = some e2
  rw [h2]
  rfl
theorem ints_last {zs : List Int} (h : zs ≠ []) : oIx (.d (.list (zs.map .int))) (.d (.int (-1))) = some (.d (.int (zs.getLast h))) := by
  conv => lhs; rw [← List.dropLast_concat_getLast h]
  rw [List.map_append]
  exact ix_last _ _
theorem u_idxL {env : Env} {a b : ME} {Q : PV → Env → Prop} (h : W a env fun x e1 => ∃ ds ys, x = .d (.list ds) ∧ strsOf ds = some ys ∧ W b e1 fun y e2 => ∃ z j, y = .d (.str z) ∧ idxOf ys z = some j ∧ Q (.d (.int (j : Nat))) e2) : W (mIdxL a b) env Q := by
  obtain ⟨x, e1, h1, ds, ys, rfl, h2, y, e2, h3, z, j, rfl, h4, q⟩ := h
  exact ⟨_, e2, by simp only [mIdxL, h1, h2, h3, h4, Option.bind_some], q⟩
theorem eqvAll_ints : ∀ a b : List Int, PyData.eqvAll (a.map .int) (b.map .int) = decide (a = b)
  | [], [] => by simp [PyData.eqvAll]
  | [], _ :: _ => by simp [PyData.eqvAll]
  | _ :: _, [] => by simp [PyData.eqvAll]
  | x :: a, y :: b => by
    simp only [List.map_cons, PyData.eqvAll, PyData.eqv, eqvAll_ints a b]
    by_cases h : x = y <;> simp [h]
theorem o_eqLI {a b : List Int} : oEq (.d (.list (a.map .int))) (.d (.list (b.map .int))) = some (.d (.bool (decide (a = b)))) := by
  have e : PyData.eqv (.list (a.map .int)) (.list (b.map .int)) = decide (a = b) := by simp only [PyData.eqv, eqvAll_ints]
  simp only [oEq, shInts, and_self, if_true, e]
theorem dist_self {zs : List Int} (h : zs.Nodup) : dist zs = zs := by
  have key : ∀ (l acc : List Int), (acc ++ l).Nodup → l.foldl added acc = acc ++ l := by
    intro l
    induction l with
    | nil => intro acc _; simp
    | cons x r ih =>
      intro acc hn
      have hx : x ∉ acc := fun hm => (List.nodup_append.mp hn).2.2 _ hm _ (by simp) rfl
      have ha : added acc x = acc ++ [x] := by simp [added, hx]
      rw [List.foldl_cons, ha, ih _ (by simpa using hn)]
      simp
  have := key zs [] (by simpa using h)
  simpa [dist] using this
theorem o_ssA {zs : List Int} (h : zs.Pairwise (· < ·)) (hl : zs.length ≤ 60) : oSortedI (.d (.list (zs.map .int))) = some (.new (.lst (zs.map .int))) := by
  have nd : zs.Nodup := h.imp fun h => by omega
  have e1 : dist zs = zs := dist_self nd
  have e2 : zs = sortI zs := sortI_of (List.Perm.refl _) (h.imp fun h => by omega)
  show (intsOf (zs.map .int)).bind _ = _
  rw [intsOf_ints, Option.bind_some, e1, if_pos ⟨Nat.lt_of_le_of_lt (by omega : zs.length + 1 ≤ 1001) (by decide +kernel), by omega⟩, ← e2]
end Ol
set_option Elab.async false
set_option linter.all false
set_option maxRecDepth 100000
set_option maxHeartbeats 4000000
/-! own: what must hold, for data of any shape -/
namespace Ol
open PySem PySem.Spec PyProof.Rows L2
theorem u_dic0 {env : Env} {Q : PV → Env → Prop} (q : Q (.d (.dict [])) env) : W mDic0 env Q := ⟨_, _, rfl, q⟩
theorem u_repL {env : Env} {Q : PV → Env → Prop} {ma : MA} {b : ME} (h : W (mLst ma) env fun x e1 => W b e1 fun y e2 => ∃ p, repO x y = some p ∧ Q p e2) : W (mRepL ma b) env Q := by
  obtain ⟨x, e1, h1, y, e2, h2, p, h3, q⟩ := h
  exact ⟨p, e2, by simp only [mRepL, h1, h2, h3, Option.bind_some], q⟩
theorem u_mayAug {env : Env} {i : Nat} {f : RV → RV → Option PV} {a : ME} {Q : Rs → Prop} (h : WS (mAug i f a) env Q) : WS (mAug i f a) env Q := h
section
variable {r : RV} {T T' : String} {X Y : Prop}
theorem sp_naT (h : isaB (tyD r) T = false) (x : X) : ((!isaB (tyD r) T) = true → X) ∧ ((!isaB (tyD r) T) = false → Y) := ⟨fun _ => x, fun z => by rw [h] at z; cases z⟩
theorem sp_naF (h : isaB (tyD r) T = true) (y : Y) : ((!isaB (tyD r) T) = true → X) ∧ ((!isaB (tyD r) T) = false → Y) := ⟨fun z => (by rw [h] at z; cases z), fun _ => y⟩
theorem sp_aT (h : isaB (tyD r) T = true) (x : X) : (isaB (tyD r) T = true → X) ∧ (isaB (tyD r) T = false → Y) := ⟨fun _ => x, fun z => by rw [h] at z; cases z⟩
theorem sp_aF (h : isaB (tyD r) T = false) (y : Y) : (isaB (tyD r) T = true → X) ∧ (isaB (tyD r) T = false → Y) := ⟨fun z => (by rw [h] at z; cases z), fun _ => y⟩
theorem sp_oaT (h : (isaB (tyD r) T || isaB (tyD r) T') = false) (x : X) : ((!(isaB (tyD r) T || isaB (tyD r) T')) = true → X) ∧ ((!(isaB (tyD r) T || isaB (tyD r) T')) = false → Y) := ⟨fun _ => x, fun z => by rw [h] at z; cases z⟩
theorem sp_oaF (h : (isaB (tyD r) T || isaB (tyD r) T') = true) (y : Y) : ((!(isaB (tyD r) T || isaB (tyD r) T')) = true → X) ∧ ((!(isaB (tyD r) T || isaB (tyD r) T')) = false → Y) := ⟨fun z => (by rw [h] at z; cases z), fun _ => y⟩
end
theorem o_lenS {x : Str} (h : x.length ≤ 100000) : oLen [.d (.str x)] = some (.d (.int (x.length : Nat))) := by simp [h]
theorem o_txIn {a : Str} {ds : List D} : oTxIn false (.d (.str a)) (.d (.tuple ds)) = some (.d (.bool (ds.any (isTx a)))) := by simp [oTxIn]
theorem o_reprJ {d : D} (h : okShowJ d = true) : oReprJ [.d d] = some (.d (.str d.shown)) := by simp [oReprJ, h]
end Ol
set_option Elab.async false
set_option linter.all false
set_option maxRecDepth 100000
set_option maxHeartbeats 4000000
namespace Ol
open PySem PySem.Spec PyProof.Rows L2
def lvS (x : Str) : Bool := PyData.strOk x && decide (x.length ≤ 6)
theorem lvS_len {x : Str} (h : lvS x = true) : x.length ≤ 6 := by
  simp only [lvS, Bool.and_eq_true, decide_eq_true_eq] at h
  exact h.2
theorem lvS_ok {x : Str} (h : lvS x = true) : PyData.strOk x = true := by
  simp only [lvS, Bool.and_eq_true, decide_eq_true_eq] at h
  exact h.1
end Ol
set_option Elab.async false
set_option linter.all false
set_option maxRecDepth 100000
set_option maxHeartbeats 4000000
namespace Ol
open PySem PySem.Spec PyProof.Rows L2
/-- an initial lane and a log for it -/
structure LG (l : List Str) (es : List Ev) : Prop where
  car : ∀ x ∈ l ++ arr es, carB x = true ∧ lvS x = true
  nd : (l ++ arr es).Nodup
  room : Rm l es
  sz : l.length + es.length ≤ 500
theorem LG.ll {l : List Str} {es : List Ev} (h : LG l es) : l.length ≤ 500 := by have := h.sz; omega
theorem LG.el {l : List Str} {es : List Ev} (h : LG l es) : es.length ≤ 500 := by have := h.sz; omega
theorem LG.ok {l : List Str} {es : List Ev} (h : LG l es) : LogOk l es := ⟨fun c hc => (h.car c (List.mem_append_right _ (List.mem_filterMap.mpr ⟨some c, hc, rfl⟩))).1, h.nd, h.room, by have := h.el; omega⟩
theorem LG.lcar {l : List Str} {es : List Ev} (h : LG l es) : ∀ x ∈ l, carB x = true := fun x hx => (h.car x (List.mem_append_left _ hx)).1
theorem LG.lnd {l : List Str} {es : List Ev} (h : LG l es) : l.Nodup := (List.nodup_append.mp h.nd).1
theorem LG.left {l : List Str} {a b : List Ev} (h : LG l (a ++ b)) : LG l a where
  car := fun x hx => h.car x (by
    rcases List.mem_append.mp hx with hx | hx
    · exact List.mem_append_left _ hx
    · exact List.mem_append_right _ (by unfold arr; rw [List.filterMap_append]; exact List.mem_append_left _ hx))
  nd := by
    have := h.nd
    unfold arr at this
    rw [List.filterMap_append, ← List.append_assoc] at this
    exact (List.nodup_append.mp this).1
  room := h.room.left
  sz := by have := h.sz; rw [List.length_append] at this; omega
theorem w_chk {l : List Str} {es : List Ev} {Q : PV → List (Option Ob) → Prop} (h : LG l es) (q : Q (.d .none) [none, none]) : WF fn_check_log [.d (sD l), .d (lg es)] Q := .of (run_check_log l es h.lcar h.lnd (by have := h.ll; omega) h.ok) q
theorem w_cs {l : List Str} {es : List Ev} {Q : PV → List (Option Ob) → Prop} (h : LG l es) (q : Q (.new (.lst ((szs l.length es).map .int))) [none, none]) : WF fn_count_sizes [.d (sD l), .d (lg es)] Q := .of (run_sizes l es (by have := h.el; omega)) q
theorem w_cn {l : List Str} {es : List Ev} {Q : PV → List (Option Ob) → Prop} (h : LG l es) (q : Q (.new (.dic (knd l es))) [none, none]) : WF fn_car_numbers [.d (sD l), .d (lg es)] Q := .of (run_numbers l es h.nd (by have := h.ll; omega) (by have := h.el; omega)) q
theorem o_lkn {l : List Str} {es : List Ev} : oListM [.m (knd l es)] = some (.new (.lst ((l ++ arr es).map .str))) := by
  have e : (knd l es).map (fun q => keyD q.1) = (l ++ arr es).map PyData.str := by
    unfold knd
    rw [List.map_map]
    exact map_zip PyData.str (l ++ arr es) 0
  simp only [oListM, e]
local macro_rules | `(tactic| walk_at "SD.R04b") => `(tactic| first
  | omega
  | (simp only [List.length_map, List.length_append, List.length_cons, List.length_nil, List.length_drop, List.length_take, List.length_dropLast, List.length_singleton, List.length_eraseIdx, List.length_zipIdx, List.length_range, List.length_range', List.length_reverse, List.length_set]; omega)
  | (with_reducible assumption))
local macro_rules | `(tactic| walk_at "CLEAN.R04b") => `(tactic| dsimp only [rd, rds, sget, sset, fz, fzs, fzP, flt, store, stores, svOf, comps, mNames, back, backs, Ob.rv, Ob.kind, pars, par, fzIO, putOuts, outsOf, okSlots, pick, wipeE, restE, frT, List.map, List.append_nil, List.nil_append, List.cons_append, List.replicate, Option.bind_some, bD, iD, if_true, reduceIte, List.getElem?_cons_zero, List.getElem?_cons_succ])
local macro_rules | `(tactic| walk_at "CL.R04b") => `(tactic| try (dsimp only [rd, rds, sget, sset, fz, fzs, fzP, flt, store, stores, svOf, comps, mNames, back, backs, Ob.rv, Ob.kind, pars, par, fzIO, putOuts, outsOf, okSlots, pick, wipeE, restE, frT, Option.map_some, List.map, List.append_nil, List.nil_append, List.cons_append, List.replicate, Option.bind_some, bD, iD, if_true, reduceIte, List.getElem?_cons_zero, List.getElem?_cons_succ]))
local macro_rules | `(tactic| walk_at "OP.R04b") => `(tactic| first
  | (with_reducible assumption)
  | (apply_rules (transparency := .reducible) (maxDepth := 1) only [in_tup, in_lst, in_set, in_dic, ix_list0, ix_list1, ix_tup0, ix_tup1, o_eqI, o_neI, ix_evI, ix_evC, ix_evO, o_eqII, o_eqOI, o_eqIO, o_eqOO, o_neNilI, o_eqNilI, o_rev, o_isB, strsOf_strs])
  | ((with_reducible refine o_addS ?_); walk_at "SD.R04b")
  | ((with_reducible refine o_addT ?_); walk_at "SD.R04b")
  | ((with_reducible refine o_addL ?_); walk_at "SD.R04b")
  | ((with_reducible refine f_append ?_); walk_at "SD.R04b")
  | (with_reducible exact o_txIn)
  | ((with_reducible refine o_reprJ ?_); (with_reducible assumption))
  | ((with_reducible refine o_div ?_ ?_) <;> walk_at "SD.R04b")
  | ((with_reducible refine o_mod ?_); walk_at "SD.R04b")
  | (with_reducible refine o_eqS (by first | assumption | exact ok_in | exact ok_out) (by first | assumption | exact ok_in | exact ok_out))
  | ((with_reducible refine o_ixS ?_ ?_) <;> walk_at "SD.R04b")
  | ((with_reducible refine o_ixT ?_ ?_) <;> walk_at "SD.R04b")
  | ((with_reducible refine f_setS ?_ ?_) <;> walk_at "SD.R04b")
  | ((with_reducible refine o_minL ?_); walk_at "SD.R04b")
  | ((with_reducible refine o_neNil ?_); (with_reducible assumption))
  | ((with_reducible refine o_eqNil ?_); (with_reducible assumption))
  | ((with_reducible refine f_popAt ?_ ?_ ?_) <;> walk_at "SD.R04b")
  | ((with_reducible exact o_lkn))
  | ((fail_if_success (with_reducible apply may_pop)); exact rfl)
  | (exact store_om rfl rfl)
  | (exact store_oo rfl rfl)
  | walk_at "SD.R04b")
local macro_rules | `(tactic| walk_at "EV1.R04b") => `(tactic| (first
  | (apply_rules (transparency := .reducible) (maxDepth := 500) only [u_thn, u_thnR, u_turn, u_turnR, u_finN, u_finR, u_inx, u_seq, u_ifS, u_skip, u_asgF, u_asg, u_asgT, u_idx, u_listR, u_ssI, u_ss, u_drop, u_ret, u_retN, u_retT, u_par, u_setIx, u_for, u_break, u_cont, u_c, u_newT, u_dic0, u_repL, u_m1, u_m2, u_nil, u_cons, u_mB, u_tup, u_lst, u_test, u_tru, u_yes, u_andT, u_orT, u_notT, u_and, u_or, u_not, u_if, u_chain, u_noP, u_P, u_sl, u_meth, u_isi, u_isi2, u_call, u_callK, u_iter, u_enum, u_range1, u_range2, sp_tt, sp_ff, Exists.intro])
  | ((with_reducible refine u_mayVar ?_); first | (refine u_var rfl ?_) | (refine u_varO rfl ?_))
  | ((with_reducible refine u_mayAug ?_); (refine u_aug (by first | exact rfl | (walk_at "CLEAN.R04b"; exact rfl)) ?_))
  | ((with_reducible refine u_mayWG ?_); first | (refine u_g (by first | (walk_at "CLEAN.R04b"; exact rfl) | (walk_at "CLEAN.R04b"; done) | exact store_om rfl rfl | exact store_oo rfl rfl) ?_) | (refine u_gs (by first | (walk_at "CLEAN.R04b"; exact rfl) | (walk_at "CLEAN.R04b"; done)) ?_))
  | ((with_reducible refine sp_dt ?_ ?_); focus (first | assumption | omega))
  | ((with_reducible refine sp_df ?_ ?_); focus (first | assumption | omega))
  | ((with_reducible refine sp_et ?_ ?_); focus (first | assumption | omega))
  | ((with_reducible refine sp_ndt ?_ ?_); focus (first | assumption | omega))
  | ((with_reducible refine sp_ndf ?_ ?_); focus (first | assumption | omega))
  | ((with_reducible refine sp_ef ?_ ?_); focus (first | assumption | omega))
  | (with_reducible refine sp_t (by assumption) ?_)
  | (with_reducible refine sp_f (by assumption) ?_)
  | (with_reducible refine sp_nt (by first | assumption | rfl) ?_)
  | (with_reducible refine sp_nf (by first | assumption | rfl) ?_)
  | ((with_reducible refine sp_naT ?_ ?_); focus (exact rfl))
  | ((with_reducible refine sp_naF ?_ ?_); focus (exact rfl))
  | ((with_reducible refine sp_aT ?_ ?_); focus (exact rfl))
  | ((with_reducible refine sp_aF ?_ ?_); focus (exact rfl))
  | ((with_reducible refine sp_oaT ?_ ?_); focus (exact rfl))
  | ((with_reducible refine sp_oaF ?_ ?_); focus (exact rfl))
  | (with_reducible refine sp_d (fun hb => ?_) (fun hb => ?_))
  | (with_reducible refine sp_nd (fun hb => ?_) (fun hb => ?_))
  | (with_reducible refine sp_e (fun hb => ?_) (fun hb => ?_))
  | (with_reducible refine sp_ne (fun hb => ?_) (fun hb => ?_))
  | (with_reducible refine sp_xf (fun hb => ?_) (fun hb => ?_))
  | (with_reducible refine sp_xt (fun hb => ?_) (fun hb => ?_))
  | (with_reducible refine sp_b (fun hb => ?_) (fun hb => ?_))
  | ((with_reducible refine u_mayWF ?_); (try (first | (with_reducible refine u_svs1 ?_) | (with_reducible refine u_svs2 ?_) | (with_reducible refine u_svs3 ?_) | (with_reducible refine u_svs4 ?_) | (with_reducible refine u_svs5 ?_) | (with_reducible refine u_svs6 ?_) | (with_reducible refine u_svs7 ?_) | (with_reducible refine u_svs8 ?_))); (first | ((with_reducible refine w_chk (by assumption) ?_)) | ((with_reducible refine w_cs (by assumption) ?_)) | ((with_reducible refine w_cn (by assumption) ?_)) | fail))
  | ((with_reducible refine And.intro ?_ ?_); focus (first | (walk_at "CLEAN.R04b"; walk_at "OP.R04b"; done) | (walk_at "CLEAN.R04b"; done) | (walk_at "OP.R04b"; done)))
  | fail))
local macro_rules | `(tactic| walk_at "EV.R04b") => `(tactic| repeat' (first | walk_at "EV1.R04b" | fail))
local macro_rules | `(tactic| walk_at "CE.R04b") => `(tactic| try (dsimp only [sset, wipeE, restE, List.map, List.cons_append, List.nil_append, List.append_nil, List.replicate]))
theorem y_sizes {l : List Str} {es : List Ev} {Q : PV → List (Option Ob) → Prop} (h : LG l es) (q : Q (.new (.lst ((szs l.length es).map .int))) [none, none]) : WF fn_sizes [.d (sD l), .d (lg es)] Q := by
  refine u_fn rfl ?_
  unfold m_sizes
  walk_at "CLEAN.R04b"
  walk_at "EV.R04b"
  exact q
theorem y_numbers {l : List Str} {es : List Ev} {Q : PV → List (Option Ob) → Prop} (h : LG l es) (q : Q (.new (.lst ((l ++ arr es).map .str))) [none, none]) : WF fn_numbers [.d (sD l), .d (lg es)] Q := by
  refine u_fn rfl ?_
  unfold m_numbers
  walk_at "CLEAN.R04b"
  walk_at "EV.R04b"
  exact q
def sdS (b : Bool) : Str := if b then "L" else "R"
abbrev sdL (bs : List Bool) : D := .list (bs.map fun b => .str (sdS b))
theorem ok_L : PyData.strOk ("L" : Str) = true := by decide +kernel
theorem ok_R : PyData.strOk ("R" : Str) = true := by decide +kernel
theorem t_L : oEq (.d (.str (sdS true))) (.d (.str "L")) = some (.d (.bool true)) := by
  show oEq (.d (.str "L")) (.d (.str "L")) = _
  rw [o_eqS ok_L ok_L, beq_self_eq_true]
theorem t_R : oEq (.d (.str (sdS false))) (.d (.str "L")) = some (.d (.bool false)) := by
  show oEq (.d (.str "R")) (.d (.str "L")) = _
  rw [o_eqS ok_R ok_L]
  rfl
theorem side_ok (b : Bool) : fn_is_side [.d (.str (sdS b))] = some (.d (.bool true), [none]) := by cases b <;> kernel_rfl
theorem zip_ev : ∀ xs : List Mv, zipD ((evs xs).map ev) ((xs.map (·.2)).map fun b => .str (sdS b)) = xs.map fun x => .tuple [ev x.1, .str (sdS x.2)]
  | [] => rfl
  | x :: xs => by
    have := zip_ev xs
    simp only [evs, List.map_cons, zipD] at this ⊢
    rw [this]
theorem no_ev (es : List Ev) : (es.map ev).any isS = false := by
  rw [List.any_eq_false]
  intro x hx
  obtain ⟨y, _, rfl⟩ := List.mem_map.mp hx
  cases y <;> simp [ev, isS]
theorem u_zip {env : Env} {ma : MA} {Q : List D → Env → Prop} (h : W ma env fun xs e => ∃ as bs, xs = [.d (.list as), .d (.list bs)] ∧ as.any isS = false ∧ Q (zipD as bs) e) : W (mZip ma) env Q := by
  obtain ⟨xs, e, h1, as, bs, rfl, h2, q⟩ := h
  exact ⟨_, e, by simp only [mZip, h1, h2, Option.bind_some, Bool.false_eq_true, if_false], q⟩
theorem f_insS {l : List Str} {i : Int} {y : Str} (h0 : 0 ≤ i) (h1 : i ≤ (l.length : Nat)) (h2 : l.length < 100000) : fInsert (.lst (l.map .str)) [.int i, .str y] = some (.d .none, .lst ((l.take i.toNat ++ [y] ++ l.drop i.toNat).map .str)) := by
  simp only [fInsert, List.length_map, h0, h1, h2, and_self, if_true, List.map_append, List.map_take, List.map_drop, List.map_cons, List.map_nil]
theorem f_popL {l : List Str} {c : Str} (h : l.length ≤ 100000) : fPopAt (.lst ((l ++ [c]).map .str)) [.int (-1)] = some (.d (.str c), .lst (l.map .str)) := by
  have t : (100000 : Int) < 2 ^ 63 ∧ -(2 ^ 63 : Int) ≤ -1 := by decide
  unfold fPopAt
  dsimp only
  rw [if_pos ⟨t.2, by omega⟩]
  have q : seqIndex? (-1) ((l ++ [c]).map PyData.str).length = some l.length := by
    unfold seqIndex?
    simp
    omega
  rw [q, Option.bind_some, List.map_append, List.eraseIdx_append_of_length_le (by simp)]
  simp
end Ol
set_option Elab.async false
set_option linter.all false
set_option maxRecDepth 100000
set_option maxHeartbeats 4000000
namespace Ol
open PySem PySem.Spec PyProof.Rows L2
structure RpI (l : List Str) (xs dn : List Mv) (e : Env) : Prop where
  ex : ∃ (v5 v6 : Option D), e = [some (.d (sD l)), some (.d (lg (evs xs))), some (.d (sdL (xs.map (·.2)))), some (.own false (.lst ((rp l dn).1.map .str))), some (.own false (.lst ((rp l dn).2.map .str))), v5.map SV.d, v6.map SV.d]
theorem f_pop0 {y : Str} {l : List Str} (h : l.length ≤ 1000) : fPopAt (.lst (PyData.str y :: l.map .str)) [.int 0] = some (.d (.str y), .lst (l.map .str)) := by
  have z := f_popAt (rest := y :: l) (i := 0) (by omega) (by simp) (by simp; omega)
  exact z
theorem rp_small (l : List Str) (xs : List Mv) : (rp l xs).1.length + (rp l xs).2.length ≤ l.length + xs.length := by
  have := (rp_perm l xs).length_eq
  have h2 : (arr (evs xs)).length ≤ (evs xs).length := List.length_filterMap_le _ _
  simp only [List.length_append, List.length_map] at this h2
  omega
local macro_rules | `(tactic| walk_at "SD.R01c") => `(tactic| first
  | omega
  | (simp only [List.length_map, List.length_append, List.length_cons, List.length_nil, List.length_drop, List.length_take, List.length_dropLast, List.length_singleton, List.length_eraseIdx, List.length_zipIdx, List.length_range, List.length_range', List.length_reverse, List.length_set]; omega)
  | (with_reducible assumption))
local macro_rules | `(tactic| walk_at "CLEAN.R01c") => `(tactic| dsimp only [rd, rds, sget, sset, fz, fzs, fzP, flt, store, stores, svOf, comps, mNames, back, backs, Ob.rv, Ob.kind, pars, par, fzIO, putOuts, outsOf, okSlots, pick, wipeE, restE, frT, List.map, List.append_nil, List.nil_append, List.cons_append, List.replicate, Option.bind_some, bD, iD, if_true, reduceIte, List.getElem?_cons_zero, List.getElem?_cons_succ])
local macro_rules | `(tactic| walk_at "CL.R01c") => `(tactic| try (dsimp only [rd, rds, sget, sset, fz, fzs, fzP, flt, store, stores, svOf, comps, mNames, back, backs, Ob.rv, Ob.kind, pars, par, fzIO, putOuts, outsOf, okSlots, pick, wipeE, restE, frT, Option.map_some, List.map, List.append_nil, List.nil_append, List.cons_append, List.replicate, Option.bind_some, bD, iD, if_true, reduceIte, List.getElem?_cons_zero, List.getElem?_cons_succ]))
local macro_rules | `(tactic| walk_at "OP.R01c") => `(tactic| first
  | (with_reducible assumption)
  | (apply_rules (transparency := .reducible) (maxDepth := 1) only [in_tup, in_lst, in_set, in_dic, ix_list0, ix_list1, ix_tup0, ix_tup1, o_eqI, o_neI, ix_evI, ix_evC, ix_evO, o_eqII, o_eqOI, o_eqIO, o_eqOO, o_neNilI, o_eqNilI, o_rev, o_isB, strsOf_strs])
  | ((with_reducible refine o_addS ?_); walk_at "SD.R01c")
  | ((with_reducible refine o_addT ?_); walk_at "SD.R01c")
  | ((with_reducible refine o_addL ?_); walk_at "SD.R01c")
  | ((with_reducible refine f_append ?_); walk_at "SD.R01c")
  | (with_reducible exact o_txIn)
  | ((with_reducible refine o_reprJ ?_); (with_reducible assumption))
  | ((with_reducible refine o_div ?_ ?_) <;> walk_at "SD.R01c")
  | ((with_reducible refine o_mod ?_); walk_at "SD.R01c")
  | (with_reducible refine o_eqS (by first | assumption | exact ok_in | exact ok_out) (by first | assumption | exact ok_in | exact ok_out))
  | ((with_reducible refine o_ixS ?_ ?_) <;> walk_at "SD.R01c")
  | ((with_reducible refine o_ixT ?_ ?_) <;> walk_at "SD.R01c")
  | ((with_reducible refine f_setS ?_ ?_) <;> walk_at "SD.R01c")
  | ((with_reducible refine o_minL ?_); walk_at "SD.R01c")
  | ((with_reducible refine o_neNil ?_); (with_reducible assumption))
  | ((with_reducible refine o_eqNil ?_); (with_reducible assumption))
  | ((with_reducible refine f_popAt ?_ ?_ ?_) <;> walk_at "SD.R01c")
  | (((with_reducible refine f_insS ?_ ?_ ?_) <;> walk_at "SD.R01c"))
  | ((with_reducible exact t_L))
  | ((with_reducible exact t_R))
  | ((with_reducible exact no_ev _))
  | (((with_reducible refine f_popL ?_); walk_at "SD.R01c"))
  | (((with_reducible refine f_pop0 ?_); walk_at "SD.R01c"))
  | ((fail_if_success (with_reducible apply may_pop)); exact rfl)
  | (exact store_om rfl rfl)
  | (exact store_oo rfl rfl)
  | walk_at "SD.R01c")
local macro_rules | `(tactic| walk_at "EV1.R01c") => `(tactic| (first
  | (apply_rules (transparency := .reducible) (maxDepth := 500) only [u_thn, u_thnR, u_turn, u_turnR, u_finN, u_finR, u_inx, u_seq, u_ifS, u_skip, u_asgF, u_asg, u_asgT, u_idx, u_listR, u_ssI, u_ss, u_drop, u_ret, u_retN, u_retT, u_par, u_setIx, u_for, u_break, u_cont, u_c, u_newT, u_dic0, u_repL, u_m1, u_m2, u_nil, u_cons, u_mB, u_tup, u_lst, u_test, u_tru, u_yes, u_andT, u_orT, u_notT, u_and, u_or, u_not, u_if, u_chain, u_noP, u_P, u_sl, u_meth, u_isi, u_isi2, u_call, u_callK, u_iter, u_enum, u_range1, u_range2, sp_tt, sp_ff, Exists.intro])
  | ((with_reducible refine u_mayVar ?_); first | (refine u_var rfl ?_) | (refine u_varO rfl ?_))
  | ((with_reducible refine u_mayAug ?_); (refine u_aug (by first | exact rfl | (walk_at "CLEAN.R01c"; exact rfl)) ?_))
  | ((with_reducible refine u_mayWG ?_); first | (refine u_g (by first | (walk_at "CLEAN.R01c"; exact rfl) | (walk_at "CLEAN.R01c"; done) | exact store_om rfl rfl | exact store_oo rfl rfl) ?_) | (refine u_gs (by first | (walk_at "CLEAN.R01c"; exact rfl) | (walk_at "CLEAN.R01c"; done)) ?_))
  | ((with_reducible refine sp_dt ?_ ?_); focus (first | assumption | omega))
  | ((with_reducible refine sp_df ?_ ?_); focus (first | assumption | omega))
  | ((with_reducible refine sp_et ?_ ?_); focus (first | assumption | omega))
  | ((with_reducible refine sp_ndt ?_ ?_); focus (first | assumption | omega))
  | ((with_reducible refine sp_ndf ?_ ?_); focus (first | assumption | omega))
  | ((with_reducible refine sp_ef ?_ ?_); focus (first | assumption | omega))
  | (with_reducible refine sp_t (by assumption) ?_)
  | (with_reducible refine sp_f (by assumption) ?_)
  | (with_reducible refine sp_nt (by first | assumption | rfl) ?_)
  | (with_reducible refine sp_nf (by first | assumption | rfl) ?_)
  | ((with_reducible refine sp_naT ?_ ?_); focus (exact rfl))
  | ((with_reducible refine sp_naF ?_ ?_); focus (exact rfl))
  | ((with_reducible refine sp_aT ?_ ?_); focus (exact rfl))
  | ((with_reducible refine sp_aF ?_ ?_); focus (exact rfl))
  | ((with_reducible refine sp_oaT ?_ ?_); focus (exact rfl))
  | ((with_reducible refine sp_oaF ?_ ?_); focus (exact rfl))
  | (with_reducible refine sp_d (fun hb => ?_) (fun hb => ?_))
  | (with_reducible refine sp_nd (fun hb => ?_) (fun hb => ?_))
  | (with_reducible refine sp_e (fun hb => ?_) (fun hb => ?_))
  | (with_reducible refine sp_ne (fun hb => ?_) (fun hb => ?_))
  | (with_reducible refine sp_xf (fun hb => ?_) (fun hb => ?_))
  | (with_reducible refine sp_xt (fun hb => ?_) (fun hb => ?_))
  | (with_reducible refine sp_b (fun hb => ?_) (fun hb => ?_))
  | ((with_reducible refine u_mayWF ?_); (try (first | (with_reducible refine u_svs1 ?_) | (with_reducible refine u_svs2 ?_) | (with_reducible refine u_svs3 ?_) | (with_reducible refine u_svs4 ?_) | (with_reducible refine u_svs5 ?_) | (with_reducible refine u_svs6 ?_) | (with_reducible refine u_svs7 ?_) | (with_reducible refine u_svs8 ?_))); (first  | fail))
  | ((with_reducible refine And.intro ?_ ?_); focus (first | (walk_at "CLEAN.R01c"; walk_at "OP.R01c"; done) | (walk_at "CLEAN.R01c"; done) | (walk_at "OP.R01c"; done)))
  | fail))
local macro_rules | `(tactic| walk_at "EV.R01c") => `(tactic| repeat' (first | walk_at "EV1.R01c" | fail))
local macro_rules | `(tactic| walk_at "CE.R01c") => `(tactic| try (dsimp only [sset, wipeE, restE, List.map, List.cons_append, List.nil_append, List.append_nil, List.replicate]))
theorem y_replayed {l : List Str} {xs : List Mv} {Q : PV → List (Option Ob) → Prop} (h : LG l (evs xs)) (q : Q (.tup [.d (sD (rp l xs).1), .new (.lst ((rp l xs).2.map .str))]) [none, none, none]) : WF fn_replayed [.d (sD l), .d (lg (evs xs)), .d (sdL (xs.map (·.2)))] Q := by
  have hll := h.ll
  have hel := h.el
  rw [List.length_map] at hel
  refine u_fn rfl ?_
  unfold m_replayed
  walk_at "CLEAN.R01c"
  walk_at "EV.R01c"
  refine u_zip ?_
  walk_at "EV.R01c"
  rw [zip_ev]
  refine u_forM (fun x : Mv => PyData.tuple [ev x.1, .str (sdS x.2)]) (RpI l xs) xs ⟨none, none, rfl⟩ ?_ ?_
  · rintro dn ⟨x, b⟩ r e hr ⟨v5, v6, rfl⟩
    have hs := rp_small l dn
    have hdl := congrArg List.length hr
    rw [List.length_append, List.length_cons] at hdl
    have hg : WG (mNames [5, 6]) (.d (PyData.tuple [ev x, .str (sdS b)])) [some (.d (sD l)), some (.d (lg (evs xs))), some (.d (sdL (xs.map (·.2)))), some (.own false (.lst ((rp l dn).1.map .str))), some (.own false (.lst ((rp l dn).2.map .str))), v5.map SV.d, v6.map SV.d] fun e1 => e1 = [some (.d (sD l)), some (.d (lg (evs xs))), some (.d (sdL (xs.map (·.2)))), some (.own false (.lst ((rp l dn).1.map .str))), some (.own false (.lst ((rp l dn).2.map .str))), some (.d (ev x)), some (.d (.str (sdS b)))] :=
      ⟨_, namesD2 (store_om rfl rfl) (store_om rfl rfl), rfl⟩
    obtain ⟨e1, hg1, rfl⟩ := hg
    refine ⟨_, hg1, ?_⟩
    have fin : ∀ {a c : List Str}, stp (rp l dn) (x, b) = (a, c) → RpI l xs (dn ++ [(x, b)]) [some (.d (sD l)), some (.d (lg (evs xs))), some (.d (sdL (xs.map (·.2)))), some (.own false (.lst (a.map .str))), some (.own false (.lst (c.map .str))), some (.d (ev x)), some (.d (.str (sdS b)))] := fun {a c} z => ⟨some _, some _, by rw [rp_snoc, z]; rfl⟩
    generalize hl' : rp l dn = s at fin hs
    obtain ⟨la, go⟩ := s
    dsimp only at fin hs ⊢
    cases x with
    | some y =>
      cases b with
      | true =>
        walk_at "EV.R01c"
        exact fin (by simp [stp])
      | false =>
        walk_at "EV.R01c"
        exact fin (by simp [stp])
    | none =>
      have ne := rp_ne (b := b) (xs := dn) (ys := r) (l := l) (by rw [← hr]; exact h.room)
      rw [hl'] at ne
      cases b with
      | true =>
        cases la with
        | nil => exact absurd rfl ne
        | cons y la =>
          have hla : la.length ≤ 1000 := by simp only [List.length_cons] at hs; omega
          walk_at "EV.R01c"
          have z := fin (a := la) (c := go ++ [y]) (by simp [stp])
          rw [List.map_append] at z
          exact z
      | false =>
        rcases List.eq_nil_or_concat la with rfl | ⟨la', y, rfl⟩
        · exact absurd rfl ne
        · rw [List.concat_eq_append] at *
          have hla : la'.length ≤ 1000 := by simp only [List.length_append, List.length_singleton] at hs; omega
          walk_at "EV.R01c"
          have z := fin (a := la') (c := go ++ [y]) (by simp [stp])
          rw [List.map_append] at z
          exact z
  · rintro e ⟨v5, v6, rfl⟩
    walk_at "EV.R01c"
    exact q
theorem sides_all (bs : List Bool) : boolsOf (bs.map fun _ => PyData.bool true) = some (bs.map fun _ => true) := boolsOf_map (fun _ : Bool => true) bs
theorem o_allS (bs : List Bool) : oAll [.d (.list (bs.map fun _ => PyData.bool true))] = some (.d (.bool true)) := by
  simp [oAll, sides_all]
theorem w_side {b : Bool} {Q : PV → List (Option Ob) → Prop} (q : Q (.d (.bool true)) [none]) : WF fn_is_side [.d (.str (sdS b))] Q := .of (side_ok b) q
theorem u_retU {env : Env} {a : ME} {QS : Rs → Prop} (h : W a env fun x e => ∃ ys zs, x = .tup ys ∧ okSlots ys = true ∧ backs e ys = some zs ∧ QS (.ret (.tup zs) e)) : WS (mRetU a) env QS := by
  obtain ⟨x, e, h1, ys, zs, rfl, h2, h3, q⟩ := h
  exact ⟨_, by simp only [mRetU, tupP, h1, h2, h3, Option.bind_some, if_true], q⟩
local macro_rules | `(tactic| walk_at "SD.R01c") => `(tactic| first
  | omega
  | (simp only [List.length_map, List.length_append, List.length_cons, List.length_nil, List.length_drop, List.length_take, List.length_dropLast, List.length_singleton, List.length_eraseIdx, List.length_zipIdx, List.length_range, List.length_range', List.length_reverse, List.length_set]; omega)
  | (with_reducible assumption))
local macro_rules | `(tactic| walk_at "CLEAN.R01c") => `(tactic| dsimp only [rd, rds, sget, sset, fz, fzs, fzP, flt, store, stores, svOf, comps, mNames, back, backs, Ob.rv, Ob.kind, pars, par, fzIO, putOuts, outsOf, okSlots, pick, wipeE, restE, frT, List.map, List.append_nil, List.nil_append, List.cons_append, List.replicate, Option.bind_some, bD, iD, if_true, reduceIte, List.getElem?_cons_zero, List.getElem?_cons_succ])
local macro_rules | `(tactic| walk_at "CL.R01c") => `(tactic| try (dsimp only [rd, rds, sget, sset, fz, fzs, fzP, flt, store, stores, svOf, comps, mNames, back, backs, Ob.rv, Ob.kind, pars, par, fzIO, putOuts, outsOf, okSlots, pick, wipeE, restE, frT, Option.map_some, List.map, List.append_nil, List.nil_append, List.cons_append, List.replicate, Option.bind_some, bD, iD, if_true, reduceIte, List.getElem?_cons_zero, List.getElem?_cons_succ]))
local macro_rules | `(tactic| walk_at "OP.R01c") => `(tactic| first
  | (with_reducible assumption)
  | (apply_rules (transparency := .reducible) (maxDepth := 1) only [in_tup, in_lst, in_set, in_dic, ix_list0, ix_list1, ix_tup0, ix_tup1, o_eqI, o_neI, ix_evI, ix_evC, ix_evO, o_eqII, o_eqOI, o_eqIO, o_eqOO, o_neNilI, o_eqNilI, o_rev, o_isB, strsOf_strs])
  | ((with_reducible refine o_addS ?_); walk_at "SD.R01c")
  | ((with_reducible refine o_addT ?_); walk_at "SD.R01c")
  | ((with_reducible refine o_addL ?_); walk_at "SD.R01c")
  | ((with_reducible refine f_append ?_); walk_at "SD.R01c")
  | (with_reducible exact o_txIn)
  | ((with_reducible refine o_reprJ ?_); (with_reducible assumption))
  | ((with_reducible refine o_div ?_ ?_) <;> walk_at "SD.R01c")
  | ((with_reducible refine o_mod ?_); walk_at "SD.R01c")
  | (with_reducible refine o_eqS (by first | assumption | exact ok_in | exact ok_out) (by first | assumption | exact ok_in | exact ok_out))
  | ((with_reducible refine o_ixS ?_ ?_) <;> walk_at "SD.R01c")
  | ((with_reducible refine o_ixT ?_ ?_) <;> walk_at "SD.R01c")
  | ((with_reducible refine f_setS ?_ ?_) <;> walk_at "SD.R01c")
  | ((with_reducible refine o_minL ?_); walk_at "SD.R01c")
  | ((with_reducible refine o_neNil ?_); (with_reducible assumption))
  | ((with_reducible refine o_eqNil ?_); (with_reducible assumption))
  | ((with_reducible refine f_popAt ?_ ?_ ?_) <;> walk_at "SD.R01c")
  | ((with_reducible exact o_allS _))
  | ((fail_if_success (with_reducible apply may_pop)); exact rfl)
  | (exact store_om rfl rfl)
  | (exact store_oo rfl rfl)
  | walk_at "SD.R01c")
local macro_rules | `(tactic| walk_at "EV1.R01c") => `(tactic| (first
  | (apply_rules (transparency := .reducible) (maxDepth := 500) only [u_thn, u_thnR, u_turn, u_turnR, u_finN, u_finR, u_inx, u_seq, u_ifS, u_skip, u_asgF, u_asg, u_asgT, u_idx, u_listR, u_ssI, u_ss, u_drop, u_ret, u_retN, u_retT, u_par, u_setIx, u_for, u_break, u_cont, u_c, u_newT, u_dic0, u_repL, u_m1, u_m2, u_nil, u_cons, u_mB, u_tup, u_lst, u_test, u_tru, u_yes, u_andT, u_orT, u_notT, u_and, u_or, u_not, u_if, u_chain, u_noP, u_P, u_sl, u_meth, u_isi, u_isi2, u_call, u_callK, u_iter, u_enum, u_range1, u_range2, sp_tt, sp_ff, Exists.intro])
  | ((with_reducible refine u_mayVar ?_); first | (refine u_var rfl ?_) | (refine u_varO rfl ?_))
  | ((with_reducible refine u_mayAug ?_); (refine u_aug (by first | exact rfl | (walk_at "CLEAN.R01c"; exact rfl)) ?_))
  | ((with_reducible refine u_mayWG ?_); first | (refine u_g (by first | (walk_at "CLEAN.R01c"; exact rfl) | (walk_at "CLEAN.R01c"; done) | exact store_om rfl rfl | exact store_oo rfl rfl) ?_) | (refine u_gs (by first | (walk_at "CLEAN.R01c"; exact rfl) | (walk_at "CLEAN.R01c"; done)) ?_))
  | ((with_reducible refine sp_dt ?_ ?_); focus (first | assumption | omega))
  | ((with_reducible refine sp_df ?_ ?_); focus (first | assumption | omega))
  | ((with_reducible refine sp_et ?_ ?_); focus (first | assumption | omega))
  | ((with_reducible refine sp_ndt ?_ ?_); focus (first | assumption | omega))
  | ((with_reducible refine sp_ndf ?_ ?_); focus (first | assumption | omega))
  | ((with_reducible refine sp_ef ?_ ?_); focus (first | assumption | omega))
  | (with_reducible refine sp_t (by assumption) ?_)
  | (with_reducible refine sp_f (by assumption) ?_)
  | (with_reducible refine sp_nt (by first | assumption | rfl) ?_)
  | (with_reducible refine sp_nf (by first | assumption | rfl) ?_)
  | ((with_reducible refine sp_naT ?_ ?_); focus (exact rfl))
  | ((with_reducible refine sp_naF ?_ ?_); focus (exact rfl))
  | ((with_reducible refine sp_aT ?_ ?_); focus (exact rfl))
  | ((with_reducible refine sp_aF ?_ ?_); focus (exact rfl))
  | ((with_reducible refine sp_oaT ?_ ?_); focus (exact rfl))
  | ((with_reducible refine sp_oaF ?_ ?_); focus (exact rfl))
  | (with_reducible refine sp_d (fun hb => ?_) (fun hb => ?_))
  | (with_reducible refine sp_nd (fun hb => ?_) (fun hb => ?_))
  | (with_reducible refine sp_e (fun hb => ?_) (fun hb => ?_))
  | (with_reducible refine sp_ne (fun hb => ?_) (fun hb => ?_))
  | (with_reducible refine sp_xf (fun hb => ?_) (fun hb => ?_))
  | (with_reducible refine sp_xt (fun hb => ?_) (fun hb => ?_))
  | (with_reducible refine sp_b (fun hb => ?_) (fun hb => ?_))
  | ((with_reducible refine u_mayWF ?_); (try (first | (with_reducible refine u_svs1 ?_) | (with_reducible refine u_svs2 ?_) | (with_reducible refine u_svs3 ?_) | (with_reducible refine u_svs4 ?_) | (with_reducible refine u_svs5 ?_) | (with_reducible refine u_svs6 ?_) | (with_reducible refine u_svs7 ?_) | (with_reducible refine u_svs8 ?_))); (first | ((with_reducible refine w_chk (by assumption) ?_)) | ((with_reducible refine y_replayed (by assumption) ?_)) | ((with_reducible refine w_side ?_)) | fail))
  | ((with_reducible refine And.intro ?_ ?_); focus (first | (walk_at "CLEAN.R01c"; walk_at "OP.R01c"; done) | (walk_at "CLEAN.R01c"; done) | (walk_at "OP.R01c"; done)))
  | fail))
local macro_rules | `(tactic| walk_at "EV.R01c") => `(tactic| repeat' (first | walk_at "EV1.R01c" | fail))
local macro_rules | `(tactic| walk_at "CE.R01c") => `(tactic| try (dsimp only [sset, wipeE, restE, List.map, List.cons_append, List.nil_append, List.append_nil, List.replicate]))
theorem y_replay {l : List Str} {xs : List Mv} {Q : PV → List (Option Ob) → Prop} (h : LG l (evs xs)) (q : Q (.tup [.d (sD (rp l xs).1), .new (.lst ((rp l xs).2.map .str))]) [none, none, none]) : WF fn_replay [.d (sD l), .d (lg (evs xs)), .d (sdL (xs.map (·.2)))] Q := by
  have hel := h.el
  rw [List.length_map] at hel
  refine u_fn rfl ?_
  unfold m_replay
  walk_at "CLEAN.R01c"
  have hln : (((((xs.map (·.2)).map fun b => PyData.str (sdS b)).length : Nat) : Int) == (((evs xs).map ev).length : Nat)) = true := by simp
  walk_at "EV.R01c"
  refine u_filtW (fun b : Bool => PyData.str (sdS b)) (xs.map (·.2)) (fun _ => true) (fun _ => .bool true) ?_
  walk_at "EV.R01c"
  refine ⟨fun b hb => ?_, by simp; omega, ?_⟩
  · walk_at "EV.R01c"
    rfl
  · rw [List.filter_eq_self.mpr (fun _ _ => rfl)]
    walk_at "EV.R01c"
    refine u_retU ?_
    walk_at "EV.R01c"
    exact q
end Ol
set_option Elab.async false
set_option linter.all false
set_option maxRecDepth 100000
set_option maxHeartbeats 4000000
/-! own, plain: what the law's comparisons say -/
namespace Ol
open PySem PySem.Spec PyProof.Rows L2
theorem o_neEq {a b : D} (e : a = b) (h : SeqAt.shaped b = true) : oNe (.d a) (.d b) = some (.d (.bool false)) := by
  subst e
  have : PyData.eqv a a = true := SeqAt.eqv_refl a (SeqAt.canLay_of_shaped h)
  simp only [oNe, h, and_self, if_true, this, Bool.not_true]
theorem o_eqEq {a b : D} (e : a = b) (h : SeqAt.shaped b = true) : oEq (.d a) (.d b) = some (.d (.bool true)) := by
  subst e
  have : PyData.eqv a a = true := SeqAt.eqv_refl a (SeqAt.canLay_of_shaped h)
  simp only [oEq, h, and_self, if_true, this]
theorem sort_perm {V W : List Str} (h : V.Perm W) : sortS V = sortS W := by
  have h1 := List.pairwise_mergeSort (le := leS) leS_trans leS_total V
  have h2 := List.pairwise_mergeSort (le := leS) leS_trans leS_total W
  exact List.Perm.eq_of_pairwise (le := fun a b => leS a b = true) (fun a b _ _ => leS_anti) h1 h2 ((List.mergeSort_perm V leS).trans (h.trans (List.mergeSort_perm W leS).symm))
theorem LG.right {l : List Str} {a b : List Mv} (h : LG l (evs (a ++ b))) : LG (rp l a).1 (evs b) := by
  have e0 : evs (a ++ b) = evs a ++ evs b := by simp [evs]
  have ea : arr (evs (a ++ b)) = arr (evs a) ++ arr (evs b) := by rw [e0]; unfold arr; rw [List.filterMap_append]
  have pm := rp_perm l a
  have hr : Rm l (evs a) := by have := h.room; rw [e0] at this; exact this.left
  have hlen := rp_len l a hr
  have hd := h.nd
  rw [ea, ← List.append_assoc] at hd
  have hel := h.sz
  rw [e0, List.length_append, List.length_map, List.length_map] at hel
  have sm := rp_small l a
  refine ⟨fun x hx => ?_, ?_, ?_, ?_⟩
  · refine h.car x ?_
    rw [ea, ← List.append_assoc]
    rcases List.mem_append.mp hx with hx | hx
    · exact List.mem_append_left _ (pm.mem_iff.mp (List.mem_append_left _ hx))
    · exact List.mem_append_right _ hx
  · have p2 : ((rp l a).1 ++ (rp l a).2 ++ arr (evs b)).Nodup := (pm.append_right _).nodup_iff.mpr hd
    rw [List.append_assoc] at p2
    refine p2.sublist ?_
    exact List.Sublist.append_left (List.sublist_append_right _ _) _
  · intro d r e
    have := h.room (evs a ++ d) r (by rw [e0, e, List.append_assoc])
    unfold endN at this hlen ⊢
    rw [List.foldl_append] at this
    rw [hlen]
    exact this
  · rw [List.length_map]
    omega
theorem szs_append (n : Int) : ∀ (a b : List Ev), szs n (a ++ b) = szs n a ++ (szs (endN n a) b).tail := by
  intro a b
  induction b using snoc_ind with
  | h0 => simp [szs]
  | hs b x ih =>
    rw [← List.append_assoc, szs_snoc, szs_snoc, ih, List.tail_append_of_ne_nil (by intro z; have := congrArg List.length z; rw [szs_len] at this; simp at this), List.append_assoc]
    congr 3
    unfold endN
    simp [List.foldl_append]
theorem o_szl {n : Int} {es : List Ev} : oIx (.d (.list ((szs n es).map .int))) (.d (.int (-1))) = some (.d (.int (endN n es))) := by
  obtain ⟨pre, hp⟩ := szs_last n es
  rw [hp, List.map_append]
  exact ix_last _ _
theorem o_sortA {a b : List Str} : oSortS [.d (.list (a.map .str ++ b.map .str))] = some (.new (.lst ((sortS (a ++ b)).map .str))) := by
  rw [← List.map_append]
  show (strsOf _).bind _ = _
  rw [strsOf_strs]
  rfl
theorem o_sortB {a : List Str} : oSortS [.d (.list (a.map .str))] = some (.new (.lst ((sortS a).map .str))) := by
  show (strsOf _).bind _ = _
  rw [strsOf_strs]
  rfl
theorem dep0 : ∀ l : List Str, PyData.depthAll (l.map PyData.str) = 0
  | [] => rfl
  | x :: l => by rw [List.map_cons, PyData.depthAll, dep0 l]; rfl
theorem lay0 : ∀ {l : List Str}, (∀ x ∈ l, PyData.strOk x = true) → PyData.canLayAll0 (l.map PyData.str) = true
  | [], _ => rfl
  | x :: l, h => by
    rw [List.map_cons, PyData.canLayAll0, lay0 fun y hy => h y (List.mem_cons_of_mem _ hy), Bool.and_true, PyData.canLay0]
    exact h x List.mem_cons_self
theorem sh_pair {l g : List Str} (h1 : ∀ x ∈ l, PyData.strOk x = true) (h2 : ∀ x ∈ g, PyData.strOk x = true) : SeqAt.shaped (.tuple [sD l, .list (g.map .str)]) = true := by
  simp [SeqAt.shaped, PyData.canLay0, PyData.canLayAll0, PyData.depth, PyData.depthAll, dep0, lay0 h1, lay0 h2]
end Ol
set_option Elab.async false
set_option linter.all false
set_option maxRecDepth 100000
set_option maxHeartbeats 4000000
/-! own: the law's own rows -/
namespace Ol
open PySem PySem.Spec PyProof.Rows L2
def rws (l : List Str) (xs : List Mv) : List (List Str) := (List.range (xs.length + 1)).map fun k => (rp l (xs.take k)).1
theorem rws_last (l : List Str) (xs : List Mv) : rws l xs = ((List.range xs.length).map fun k => (rp l (xs.take k)).1) ++ [(rp l xs).1] := by
  unfold rws
  rw [List.range_succ, List.map_append]
  simp [List.take_length]
theorem rws_snoc (l : List Str) (xs : List Mv) (x : Mv) : rws l (xs ++ [x]) = rws l xs ++ [(rp l (xs ++ [x])).1] := by
  rw [rws_last l (xs ++ [x])]
  congr 1
  unfold rws
  rw [List.length_append, List.length_singleton]
  refine List.map_congr_left fun k hk => ?_
  have hk := List.mem_range.mp hk
  rw [List.take_append_of_le_length (by omega)]
theorem rws_len (l : List Str) (xs : List Mv) : (rws l xs).length = xs.length + 1 := by simp [rws]
theorem rws_szs (l : List Str) : ∀ xs : List Mv, Rm l (evs xs) → (rws l xs).map (fun r => (r.length : Int)) = szs l.length (evs xs) := by
  intro xs
  induction xs using snoc_ind with
  | h0 => intro _; simp [rws, rp_nil, szs]
  | hs xs x ih =>
    intro h
    have e0 : evs (xs ++ [x]) = evs xs ++ [x.1] := by simp [evs]
    have hl := rp_len l (xs ++ [x]) h
    rw [e0] at h hl
    rw [rws_snoc, List.map_append, ih h.left, e0, szs_snoc, ← hl]
    rfl
theorem o_rwsL {l : List Str} {xs : List Mv} : oIx (.d (.list ((rws l xs).map sD))) (.d (.int (-1))) = some (.d (sD (rp l xs).1)) := by
  rw [rws_last, List.map_append]
  exact ix_last _ _
structure RwI (l : List Str) (xs dn : List Mv) (e : Env) : Prop where
  ex : ∃ (v5 v6 v7 : Option D), e = [some (.d (sD l)), some (.d (lg (evs xs))), some (.d (sdL (xs.map (·.2)))), some (.own false (.lst ((rws l dn).map sD))), some (.own false (.lst ((rp l dn).2.map .str))), v5.map SV.d, v6.map SV.d, v7.map SV.d]
theorem sl1s {y : Str} : cutD [PyData.str "in", .str y] (some 1) none = [.str y] := rfl
theorem cutT1 {y : Str} {l : List Str} : cutD ((y :: l).map PyData.str) (some 1) none = l.map .str := by
  rw [cut_from _ _ (by omega) (by simp; omega)]
  simp
theorem cutT2 {l : List Str} {y : Str} : cutD ((l ++ [y]).map PyData.str) none (some (-1)) = l.map .str := by
  unfold cutD
  have e : HT.sIx ((l ++ [y]).map PyData.str).length 0 none = 0 := rfl
  have e2 : HT.sIx ((l ++ [y]).map PyData.str).length ((l ++ [y]).map PyData.str).length (some (-1)) = l.length := by
    simp [HT.sIx]
    omega
  rw [e, e2, List.map_append]
  simp
theorem addT1 {y : Str} {l : List Str} (h : l.length ≤ 1000) : oAdd (.d (.tuple (cutD [.str "in", .str y] (some 1) none))) (.d (sD l)) = some (.d (sD (y :: l))) := by
  rw [sl1s, o_addT (by simp; omega)]
  rfl
theorem addT2 {y : Str} {l : List Str} (h : l.length ≤ 1000) : oAdd (.d (sD l)) (.d (.tuple (cutD [.str "in", .str y] (some 1) none))) = some (.d (sD (l ++ [y]))) := by
  have e : (l ++ [y]).map PyData.str = l.map .str ++ [.str y] := by rw [List.map_append]; rfl
  rw [sl1s, o_addT (by simp; omega), ← e]
theorem ixT0 {y : Str} {l : List Str} : oIx (.d (sD (y :: l))) (.d (.int 0)) = some (.d (.str y)) := ix_tup0 _ _
theorem ixTL {y : Str} {l : List Str} : oIx (.d (sD (l ++ [y]))) (.d (.int (-1))) = some (.d (.str y)) := by
  rw [sD, List.map_append]
  simp only [oIx, List.map_cons, List.map_nil, atI_last]
  rfl
local macro_rules | `(tactic| walk_at "SD.R01r") => `(tactic| first
  | omega
  | (simp only [List.length_map, List.length_append, List.length_cons, List.length_nil, List.length_drop, List.length_take, List.length_dropLast, List.length_singleton, List.length_eraseIdx, List.length_zipIdx, List.length_range, List.length_range', List.length_reverse, List.length_set]; omega)
  | (with_reducible assumption))
local macro_rules | `(tactic| walk_at "CLEAN.R01r") => `(tactic| dsimp only [rd, rds, sget, sset, fz, fzs, fzP, flt, store, stores, svOf, comps, mNames, back, backs, Ob.rv, Ob.kind, pars, par, fzIO, putOuts, outsOf, okSlots, pick, wipeE, restE, frT, List.map, List.append_nil, List.nil_append, List.cons_append, List.replicate, Option.bind_some, bD, iD, if_true, reduceIte, List.getElem?_cons_zero, List.getElem?_cons_succ])
local macro_rules | `(tactic| walk_at "CL.R01r") => `(tactic| try (dsimp only [rd, rds, sget, sset, fz, fzs, fzP, flt, store, stores, svOf, comps, mNames, back, backs, Ob.rv, Ob.kind, pars, par, fzIO, putOuts, outsOf, okSlots, pick, wipeE, restE, frT, Option.map_some, List.map, List.append_nil, List.nil_append, List.cons_append, List.replicate, Option.bind_some, bD, iD, if_true, reduceIte, List.getElem?_cons_zero, List.getElem?_cons_succ]))
local macro_rules | `(tactic| walk_at "OP.R01r") => `(tactic| first
  | (with_reducible assumption)
  | (apply_rules (transparency := .reducible) (maxDepth := 1) only [in_tup, in_lst, in_set, in_dic, ix_list0, ix_list1, ix_tup0, ix_tup1, o_eqI, o_neI, ix_evI, ix_evC, ix_evO, o_eqII, o_eqOI, o_eqIO, o_eqOO, o_neNilI, o_eqNilI, o_rev, o_isB, strsOf_strs])
  | ((with_reducible refine o_addS ?_); walk_at "SD.R01r")
  | ((with_reducible refine o_addT ?_); walk_at "SD.R01r")
  | ((with_reducible refine o_addL ?_); walk_at "SD.R01r")
  | ((with_reducible refine f_append ?_); walk_at "SD.R01r")
  | (with_reducible exact o_txIn)
  | ((with_reducible refine o_reprJ ?_); (with_reducible assumption))
  | ((with_reducible refine o_div ?_ ?_) <;> walk_at "SD.R01r")
  | ((with_reducible refine o_mod ?_); walk_at "SD.R01r")
  | (with_reducible refine o_eqS (by first | assumption | exact ok_in | exact ok_out) (by first | assumption | exact ok_in | exact ok_out))
  | ((with_reducible refine o_ixS ?_ ?_) <;> walk_at "SD.R01r")
  | ((with_reducible refine o_ixT ?_ ?_) <;> walk_at "SD.R01r")
  | ((with_reducible refine f_setS ?_ ?_) <;> walk_at "SD.R01r")
  | ((with_reducible refine o_minL ?_); walk_at "SD.R01r")
  | ((with_reducible refine o_neNil ?_); (with_reducible assumption))
  | ((with_reducible refine o_eqNil ?_); (with_reducible assumption))
  | ((with_reducible refine f_popAt ?_ ?_ ?_) <;> walk_at "SD.R01r")
  | ((with_reducible exact o_rwsL))
  | ((with_reducible exact t_L))
  | ((with_reducible exact t_R))
  | ((with_reducible exact no_ev _))
  | (((with_reducible refine addT1 ?_); walk_at "SD.R01r"))
  | (((with_reducible refine addT2 ?_); walk_at "SD.R01r"))
  | ((with_reducible exact ixT0))
  | ((with_reducible exact ixTL))
  | ((fail_if_success (with_reducible apply may_pop)); exact rfl)
  | (exact store_om rfl rfl)
  | (exact store_oo rfl rfl)
  | walk_at "SD.R01r")
local macro_rules | `(tactic| walk_at "EV1.R01r") => `(tactic| (first
  | (apply_rules (transparency := .reducible) (maxDepth := 500) only [u_thn, u_thnR, u_turn, u_turnR, u_finN, u_finR, u_inx, u_seq, u_ifS, u_skip, u_asgF, u_asg, u_asgT, u_idx, u_listR, u_ssI, u_ss, u_drop, u_ret, u_retN, u_retT, u_par, u_setIx, u_for, u_break, u_cont, u_c, u_newT, u_dic0, u_repL, u_m1, u_m2, u_nil, u_cons, u_mB, u_tup, u_lst, u_test, u_tru, u_yes, u_andT, u_orT, u_notT, u_and, u_or, u_not, u_if, u_chain, u_noP, u_P, u_sl, u_meth, u_isi, u_isi2, u_call, u_callK, u_iter, u_enum, u_range1, u_range2, sp_tt, sp_ff, Exists.intro])
  | ((with_reducible refine u_mayVar ?_); first | (refine u_var rfl ?_) | (refine u_varO rfl ?_))
  | ((with_reducible refine u_mayAug ?_); (refine u_aug (by first | exact rfl | (walk_at "CLEAN.R01r"; exact rfl)) ?_))
  | ((with_reducible refine u_mayWG ?_); first | (refine u_g (by first | (walk_at "CLEAN.R01r"; exact rfl) | (walk_at "CLEAN.R01r"; done) | exact store_om rfl rfl | exact store_oo rfl rfl) ?_) | (refine u_gs (by first | (walk_at "CLEAN.R01r"; exact rfl) | (walk_at "CLEAN.R01r"; done)) ?_))
  | ((with_reducible refine sp_dt ?_ ?_); focus (first | assumption | omega))
  | ((with_reducible refine sp_df ?_ ?_); focus (first | assumption | omega))
  | ((with_reducible refine sp_et ?_ ?_); focus (first | assumption | omega))
  | ((with_reducible refine sp_ndt ?_ ?_); focus (first | assumption | omega))
  | ((with_reducible refine sp_ndf ?_ ?_); focus (first | assumption | omega))
  | ((with_reducible refine sp_ef ?_ ?_); focus (first | assumption | omega))
  | (with_reducible refine sp_t (by assumption) ?_)
  | (with_reducible refine sp_f (by assumption) ?_)
  | (with_reducible refine sp_nt (by first | assumption | rfl) ?_)
  | (with_reducible refine sp_nf (by first | assumption | rfl) ?_)
  | ((with_reducible refine sp_naT ?_ ?_); focus (exact rfl))
  | ((with_reducible refine sp_naF ?_ ?_); focus (exact rfl))
  | ((with_reducible refine sp_aT ?_ ?_); focus (exact rfl))
  | ((with_reducible refine sp_aF ?_ ?_); focus (exact rfl))
  | ((with_reducible refine sp_oaT ?_ ?_); focus (exact rfl))
  | ((with_reducible refine sp_oaF ?_ ?_); focus (exact rfl))
  | (with_reducible refine sp_d (fun hb => ?_) (fun hb => ?_))
  | (with_reducible refine sp_nd (fun hb => ?_) (fun hb => ?_))
  | (with_reducible refine sp_e (fun hb => ?_) (fun hb => ?_))
  | (with_reducible refine sp_ne (fun hb => ?_) (fun hb => ?_))
  | (with_reducible refine sp_xf (fun hb => ?_) (fun hb => ?_))
  | (with_reducible refine sp_xt (fun hb => ?_) (fun hb => ?_))
  | (with_reducible refine sp_b (fun hb => ?_) (fun hb => ?_))
  | ((with_reducible refine u_mayWF ?_); (try (first | (with_reducible refine u_svs1 ?_) | (with_reducible refine u_svs2 ?_) | (with_reducible refine u_svs3 ?_) | (with_reducible refine u_svs4 ?_) | (with_reducible refine u_svs5 ?_) | (with_reducible refine u_svs6 ?_) | (with_reducible refine u_svs7 ?_) | (with_reducible refine u_svs8 ?_))); (first  | fail))
  | ((with_reducible refine And.intro ?_ ?_); focus (first | (walk_at "CLEAN.R01r"; walk_at "OP.R01r"; done) | (walk_at "CLEAN.R01r"; done) | (walk_at "OP.R01r"; done)))
  | fail))
local macro_rules | `(tactic| walk_at "EV.R01r") => `(tactic| repeat' (first | walk_at "EV1.R01r" | fail))
local macro_rules | `(tactic| walk_at "CE.R01r") => `(tactic| try (dsimp only [sset, wipeE, restE, List.map, List.cons_append, List.nil_append, List.append_nil, List.replicate]))
theorem w_rows {l : List Str} {xs : List Mv} {Q : PV → List (Option Ob) → Prop} (h : LG l (evs xs)) (q : Q (.tup [.new (.lst ((rws l xs).map sD)), .new (.lst ((rp l xs).2.map .str))]) [none, none, none]) : WF fn__law_rows [.d (sD l), .d (lg (evs xs)), .d (sdL (xs.map (·.2)))] Q := by
  have hll := h.ll
  have hel := h.el
  rw [List.length_map] at hel
  refine u_fn rfl ?_
  unfold m__law_rows
  walk_at "CLEAN.R01r"
  walk_at "EV.R01r"
  refine u_zip ?_
  walk_at "EV.R01r"
  rw [zip_ev]
  refine u_forM (fun x : Mv => PyData.tuple [ev x.1, .str (sdS x.2)]) (RwI l xs) xs ⟨none, none, none, rfl⟩ ?_ ?_
  · rintro dn ⟨x, b⟩ r e hr ⟨v5, v6, v7, rfl⟩
    have hs := rp_small l dn
    have hdl := congrArg List.length hr
    rw [List.length_append, List.length_cons] at hdl
    have hrl : ((rws l dn).map sD).length ≤ 1000 := by rw [List.length_map, rws_len]; omega
    have hg : WG (mNames [5, 6]) (.d (PyData.tuple [ev x, .str (sdS b)])) [some (.d (sD l)), some (.d (lg (evs xs))), some (.d (sdL (xs.map (·.2)))), some (.own false (.lst ((rws l dn).map sD))), some (.own false (.lst ((rp l dn).2.map .str))), v5.map SV.d, v6.map SV.d, v7.map SV.d] fun e1 => e1 = [some (.d (sD l)), some (.d (lg (evs xs))), some (.d (sdL (xs.map (·.2)))), some (.own false (.lst ((rws l dn).map sD))), some (.own false (.lst ((rp l dn).2.map .str))), some (.d (ev x)), some (.d (.str (sdS b))), v7.map SV.d] :=
      ⟨_, namesD2 (store_om rfl rfl) (store_om rfl rfl), rfl⟩
    obtain ⟨e1, hg1, rfl⟩ := hg
    refine ⟨_, hg1, ?_⟩
    have fin : ∀ {a c : List Str}, stp (rp l dn) (x, b) = (a, c) → RwI l xs (dn ++ [(x, b)]) [some (.d (sD l)), some (.d (lg (evs xs))), some (.d (sdL (xs.map (·.2)))), some (.own false (.lst ((rws l dn).map sD ++ [sD a]))), some (.own false (.lst (c.map .str))), some (.d (ev x)), some (.d (.str (sdS b))), some (.d (sD a))] := fun {a c} z => ⟨some _, some _, some _, by rw [rws_snoc, rp_snoc, z, List.map_append]; rfl⟩
    have hrw := @o_rwsL l dn
    generalize hl' : rp l dn = s at fin hs hrw
    obtain ⟨la, go⟩ := s
    dsimp only at fin hs hrw ⊢
    cases x with
    | some y =>
      cases b with
      | true =>
        walk_at "EV.R01r"
        exact fin (by simp [stp])
      | false =>
        walk_at "EV.R01r"
        exact fin (by simp [stp])
    | none =>
      have ne := rp_ne (b := b) (xs := dn) (ys := r) (l := l) (by rw [← hr]; exact h.room)
      rw [hl'] at ne
      cases b with
      | true =>
        cases la with
        | nil => exact absurd rfl ne
        | cons y la =>
          walk_at "EV.R01r"
          have z := fin (a := la) (c := go ++ [y]) (by simp [stp])
          rw [List.map_append] at z
          rw [show PyData.str y :: la.map PyData.str = (y :: la).map .str from rfl, cutT1]
          exact z
      | false =>
        rcases List.eq_nil_or_concat la with rfl | ⟨la', y, rfl⟩
        · exact absurd rfl ne
        · rw [List.concat_eq_append] at *
          walk_at "EV.R01r"
          have z := fin (a := la') (c := go ++ [y]) (by simp [stp])
          rw [List.map_append] at z
          rw [cutT2]
          exact z
  · rintro e ⟨v5, v6, v7, rfl⟩
    walk_at "EV.R01r"
    exact q
end Ol
set_option Elab.async false
set_option linter.all false
set_option maxRecDepth 100000
set_option maxHeartbeats 4000000
/-! own, plain: the law's draws -/
namespace Ol
open PySem PySem.Spec PyProof.Rows L2
theorem log2_le {n k : Nat} (h : n < 2 ^ (k + 1)) : n.log2 ≤ k := by
  by_cases z : n = 0
  · subst z; simp
  · have := (Nat.log2_lt z).mpr h; omega
theorem mulW {a b : Int} {j k : Nat} (ha : a.natAbs < 2 ^ (j + 1)) (hb : b.natAbs < 2 ^ (k + 1)) (h : j + k < 1000000) : CMulW a b := by
  have h1 := log2_le ha
  have h2 := log2_le hb
  unfold CMulW
  omega
theorem bits_le {i : Int} {k : Nat} (h : i.natAbs < 2 ^ k) : Builtin.Int.intBits i ≤ k := by
  unfold Builtin.Int.intBits
  split
  · omega
  · rename_i c
    have z : i.natAbs ≠ 0 := by simpa using c
    have := (Nat.log2_lt z).mpr h
    omega
/-- the source behind at most n draws -/
structure Sc (n : Nat) (a b c : Int) : Prop where
  a0 : 0 ≤ a
  b0 : 0 ≤ b
  b1 : b < 2 ^ 200
  c0 : 0 ≤ c
  c1 : c ≤ n
theorem Sc.mono {n m : Nat} {a b c : Int} (h : Sc n a b c) (l : n ≤ m) : Sc m a b c := ⟨h.a0, h.b0, h.b1, h.c0, by have := h.c1; omega⟩
abbrev scO (a b c : Int) : Ob := .lst [.int a, .int b, .int c]
theorem draw1 (a b c lim : Int) (ha : 0 < a) (h0 : 0 < lim) (h1 : lim < 1073741824) : fn__law_draw [.own true (.lst [.int a, .int b, .int c]), .d (.int lim)] = some (.d (.int (a % lim)), [some (.lst [.int (a / lim), .int b, .int c]), none]) := by
  have g : CDiv a lim := ⟨h0, h1⟩
  simp [fn__law_draw, runFn, m__law_draw, pars, par, okSlots, putOuts, ha, h0, g, fSetL, ixN]
def my1 (b c : Int) : Int := (b + 49979687 * (c + 1)) ^ 3 % 10000000000000000000000000000000000043
def my2 (b c : Int) : Int := (my1 b c + 15485863 * (c + 1)) ^ 3 % 1000000000000000000000000000000000067
theorem draw2 (a b c lim : Int) (ha : ¬ 0 < a) (h0 : 0 < lim) (h1 : lim < 1073741824) (hb : 0 ≤ b) (hb2 : b < 2 ^ 200) (hc : 0 ≤ c) (hc2 : c ≤ 2 ^ 60) : fn__law_draw [.own true (.lst [.int a, .int b, .int c]), .d (.int lim)] = some (.d (.int (my2 b c / 131071 % lim)), [some (.lst [.int a, .int b, .int (c + 1)]), none]) := by
  have g1 : CMulW 49979687 (c + 1) := mulW (j := 25) (k := 60) (by decide) (by omega) (by decide)
  have g2 : CMulW 15485863 (c + 1) := mulW (j := 23) (k := 60) (by decide) (by omega) (by decide)
  have g3 : CPowW (b + 49979687 * (c + 1)) 3 := by
    have z := bits_le (i := b + 49979687 * (c + 1)) (k := 201) (by omega)
    refine ⟨by decide, ?_⟩
    omega
  have p1 : CPowW 10 37 := by
    have z := bits_le (i := 10) (k := 4) (by decide)
    refine ⟨by decide, ?_⟩
    omega
  have p2 : CPowW 10 36 := by
    have z := bits_le (i := 10) (k := 4) (by decide)
    refine ⟨by decide, ?_⟩
    omega
  have hm : 0 ≤ my1 b c ∧ my1 b c < 10000000000000000000000000000000000043 := ⟨Int.emod_nonneg _ (by decide), Int.emod_lt_of_pos _ (by decide)⟩
  have g4 : CPowW (my1 b c + 15485863 * (c + 1)) 3 := by
    have z := bits_le (i := my1 b c + 15485863 * (c + 1)) (k := 201) (by omega)
    refine ⟨by decide, ?_⟩
    omega
  have g5 : CDiv (my2 b c) 131071 := ⟨by decide, by decide⟩
  unfold my1 at g4
  unfold my2 my1 at g5
  simp [fn__law_draw, runFn, m__law_draw, pars, par, okSlots, putOuts, ha, h0, g1, g2, g3, g4, g5, p1, p2, fSetL, ixN, my1, my2]
theorem w_draw {n : Nat} {a b c lim : Int} {Q : PV → List (Option Ob) → Prop} (h : Sc n a b c) (hn : n ≤ 1000000000) (h0 : 0 < lim) (h1 : lim < 1073741824) (q : ∀ r a' c', Sc (n + 1) a' b c' → 0 ≤ r → r < lim → Q (.d (.int r)) [some (scO a' b c'), none]) : WF fn__law_draw [.own true (scO a b c), .d (.int lim)] Q := by
  obtain ⟨ha, hb, hb2, hc, hc2⟩ := h
  by_cases z : 0 < a
  · exact .of (draw1 a b c lim z h0 h1) (q _ _ _ ⟨Int.ediv_nonneg ha (by omega), hb, hb2, hc, by omega⟩ (Int.emod_nonneg _ (by omega)) (Int.emod_lt_of_pos _ h0))
  · exact .of (draw2 a b c lim z h0 h1 hb hb2 hc (by omega)) (q _ _ _ ⟨ha, hb, hb2, by omega, by omega⟩ (Int.emod_nonneg _ (by omega)) (Int.emod_lt_of_pos _ h0))
theorem w_source {ns : List Int} {k : Nat} {Q : PV → List (Option Ob) → Prop} (hk : k < 100) (hl : ns.length ≤ 1000) (q : ∀ a b c, Sc 0 a b c → Q (.new (scO a b c)) [none, none]) : WF fn__law_source [.d (.list (ns.map .int)), .d (.int (k : Nat))] Q := by
  have main : ∀ x : Int, ∃ a b, (∀ (cc : ME), cc = mIf (mTest (m2 oLt (mVar 1) (mB oLen (mCons (mVar 0) mNil)))) (m2 oIx (mVar 0) (mVar 1)) (mC (.int 0)) → cc [some (.d (.list (ns.map .int))), some (.d (.int (k : Nat))), none] = some (.d (.int x), [some (.d (.list (ns.map .int))), some (.d (.int (k : Nat))), none]) → fn__law_source [.d (.list (ns.map .int)), .d (.int (k : Nat))] = some (.new (scO a b 0), [none, none])) ∧ Sc 0 a b 0 := by
    intro x
    have g1 : CMulW 31607 (k : Int) := mulW (j := 20) (k := 20) (by decide) (by omega) (by decide)
    have g2 : CPowW 10 18 := by
      have z := bits_le (i := 10) (k := 4) (by decide)
      refine ⟨by decide, ?_⟩
      omega
    have g3 : CPowW 10 38 := by
      have z := bits_le (i := 10) (k := 4) (by decide)
      refine ⟨by decide, ?_⟩
      omega
    have mm1 := Int.emod_nonneg x (b := 10 ^ 38 + 133) (by decide)
    have mm2 := Int.emod_lt_of_pos x (b := 10 ^ 38 + 133) (by decide)
    refine ⟨(if 1000000000000000000 < (if x < 0 then -x else x) then (if x < 0 then -x else x) - 1000000000000000000 else 0), x % (10 ^ 38 + 133) + 31607 * (k : Int), fun cc hc hx => ?_, ?_, ?_, ?_, by omega, by omega⟩
    · have e : m__law_source = mSeq (mAsgF 2 cc) (mRet (mLst (mCons (mB oMax (mCons (mC (.int 0)) (mCons (m2 oSub (mB oAbs (mCons (mVar 2) mNil)) (m2 oPow (mC (.int 10)) (mC (.int 18)))) mNil))) (mCons (m2 oAdd (m2 oMod (mVar 2) (m2 oAdd (m2 oPow (mC (.int 10)) (mC (.int 38))) (mC (.int 133)))) (m2 oMul (mC (.int 31607)) (mVar 1))) (mCons (mC (.int 0)) mNil))))) := by rw [hc]; rfl
      clear hc
      simp [fn__law_source, runFn, e, pars, par, okSlots, putOuts, hx, g1, g2, g3]
    · split <;> omega
    · omega
    · omega
  by_cases z : k < ns.length
  · have g := ix_nat (ns.map PyData.int) k (.int ns[k]) (by rw [List.getElem?_map, List.getElem?_eq_getElem z]; rfl)
    obtain ⟨a, b, h1, h2⟩ := main ns[k]
    exact .of (h1 _ rfl (by simp [g, z])) (q _ _ _ h2)
  · obtain ⟨a, b, h1, h2⟩ := main 0
    exact .of (h1 _ rfl (by simp [z])) (q _ _ _ h2)
end Ol
set_option Elab.async false
set_option linter.all false
set_option maxRecDepth 100000
set_option maxHeartbeats 4000000
/-! own, plain: weight and depth of data -/
namespace Ol
open PySem PySem.Spec PyProof.Rows L2
mutual
def lv : D → Bool
  | .none => true
  | .bool _ => true
  | .int i => decide (i.natAbs ≤ 100)
  | .str x => lvS x
  | .list ds => lvAll ds
  | .tuple ds => lvAll ds
  | .dict kvs => kvs.isEmpty
def lvAll : List D → Bool
  | [] => true
  | d :: ds => lv d && lvAll ds
end
theorem lvAll_iff : ∀ {ds : List D}, lvAll ds = true ↔ ∀ x ∈ ds, lv x = true
  | [] => by simp [lvAll]
  | d :: ds => by
    rw [lvAll, Bool.and_eq_true, lvAll_iff (ds := ds)]
    simp
theorem textFrom_le : ∀ (ts : List Str) (k : Nat) (acc : Str), (textFrom k acc ts).length ≤ acc.length + piled ts
  | [], k, acc => by show acc.length ≤ _; omega
  | t :: r, k, acc => by
    have ih := textFrom_le r (k + 1) (acc ++ (if k > 0 then ", " else "" : String) ++ t)
    have e : (acc ++ (if k > 0 then ", " else "" : String) ++ t).length = acc.length + (if k > 0 then 2 else 0) + t.length := by
      rw [strLen_append, strLen_append]
      split <;> rfl
    rw [e] at ih
    rw [piled_cons]
    have g : textFrom k acc (t :: r) = textFrom (k + 1) (acc ++ (if k > 0 then ", " else "" : String) ++ t) r := rfl
    have hle : (if k > 0 then 2 else 0) ≤ 2 := by split <;> omega
    rw [g]
    omega
theorem listText_le (ts : List Str) : (listText ts).length ≤ piled ts + 2 := by
  unfold listText
  rw [strLen_append]
  have h := textFrom_le ts 0 "["
  have e1 : (("[" : String) : Str).length = 1 := rfl
  have e2 : (("]" : String) : Str).length = 1 := rfl
  rw [e2]
  omega
theorem tupleText_le (ts : List Str) : (tupleText ts).length ≤ piled ts + 3 := by
  unfold tupleText
  rw [strLen_append, strLen_append]
  have e1 : (("(" : String) : Str).length = 1 := rfl
  have e3 : (((if ts.length == 1 then ",)" else ")" : String) : Str)).length ≤ 2 := by split <;> decide +kernel
  rw [e1]
  by_cases h : ts = []
  · subst h
    have : (Str.join ", " []).length = 0 := rfl
    omega
  · have := join_length_add ts h
    omega
theorem rep_len {c : Str} (h : PyData.strOk c = true) : (reprText c).length ≤ 10 * c.length + 2 := by
  refine StrLaws.reprText_len c fun x hx => ?_
  unfold PyData.strOk at h
  have := Array.all_eq_true_iff_forall_mem.mp h x (by simpa using hx)
  have := of_decide_eq_true this
  omega
mutual
def wt : D → Nat
  | .list ds => 4 + wtAll ds
  | .tuple ds => 4 + wtAll ds
  | _ => 64
def wtAll : List D → Nat
  | [] => 0
  | d :: ds => wt d + 2 + wtAll ds
end
theorem int_txt : (List.range 201).all (fun k => decide ((Str.ofString (toString ((k : Int) - 100))).length ≤ 64)) = true := by decide +kernel
theorem int_shown {i : Int} (h : i.natAbs ≤ 100) : (PyData.int i).shown.length ≤ 64 := by
  have := List.all_eq_true.mp int_txt (i + 100).toNat (by simp; omega)
  rw [decide_eq_true_eq, show (((i + 100).toNat : Nat) : Int) - 100 = i by omega] at this
  rw [PyData.shown]
  exact this
theorem piled_all : ∀ ds : List D, (∀ x ∈ ds, x.shown.length ≤ wt x) → piled (PyData.shownAll ds) ≤ wtAll ds
  | [], _ => by rw [PyData.shownAll, piled_nil]; exact Nat.zero_le _
  | d :: ds, h => by
    have ih := piled_all ds fun x hx => h x (List.mem_cons_of_mem _ hx)
    have h1 := h d List.mem_cons_self
    rw [PyData.shownAll, piled_cons, wtAll]
    omega
mutual
theorem shown_wt : ∀ d : D, lv d = true → d.shown.length ≤ wt d ∧ d.showable = true
  | .none, _ => ⟨by decide +kernel, rfl⟩
  | .bool b, _ => ⟨by cases b <;> decide +kernel, rfl⟩
  | .int i, h => by
    have hi : i.natAbs ≤ 100 := by simpa [lv] using h
    refine ⟨by rw [wt]; exact int_shown hi; all_goals simp, ?_⟩
    rw [PyData.showable]
    have : i.natAbs.log2 ≤ 6 := log2_le (by omega)
    exact decide_eq_true (by omega)
  | .str x, h => by
    have hx : lvS x = true := by simpa [lv] using h
    have h1 := rep_len (lvS_ok hx)
    have h2 := lvS_len hx
    refine ⟨?_, rfl⟩
    rw [PyData.shown]
    show _ ≤ 64
    omega
  | .list ds, h => by
    rw [lv] at h
    obtain ⟨h1, h2⟩ := shown_wtA ds h
    rw [PyData.shown, PyData.showable, wt]
    have := listText_le (PyData.shownAll ds)
    exact ⟨by omega, h2⟩
  | .tuple ds, h => by
    rw [lv] at h
    obtain ⟨h1, h2⟩ := shown_wtA ds h
    rw [PyData.shown, PyData.showable, wt]
    have := tupleText_le (PyData.shownAll ds)
    exact ⟨by omega, h2⟩
  | .dict [], _ => ⟨by decide +kernel, rfl⟩
  | .dict (_ :: _), h => by simp [lv] at h
theorem shown_wtA : ∀ ds : List D, lvAll ds = true → piled (PyData.shownAll ds) ≤ wtAll ds ∧ PyData.showableAll ds = true
  | [], _ => ⟨by rw [PyData.shownAll, piled_nil]; exact Nat.zero_le _, rfl⟩
  | d :: ds, h => by
    rw [lvAll, Bool.and_eq_true] at h
    obtain ⟨a1, a2⟩ := shown_wt d h.1
    obtain ⟨b1, b2⟩ := shown_wtA ds h.2
    rw [PyData.shownAll, piled_cons, wtAll, PyData.showableAll, a2, b2]
    exact ⟨by omega, rfl⟩
end
/-- good data: short leaves, weight at most w, depth at most k -/
structure Gd (w k : Nat) (d : D) : Prop where
  lv : lv d = true
  wt : wt d ≤ w
  dp : d.depth ≤ k
theorem Gd.mono {w k w' k' : Nat} {d : D} (h : Gd w k d) (h1 : w ≤ w') (h2 : k ≤ k') : Gd w' k' d := ⟨h.lv, Nat.le_trans h.wt h1, Nat.le_trans h.dp h2⟩
theorem Gd.show {w k : Nat} {d : D} (h : Gd w k d) (hw : w ≤ 100000) (hk : k ≤ 40) : okShowJ d = true := by
  obtain ⟨h1, h2⟩ := shown_wt d h.lv
  unfold okShowJ
  rw [h2, decide_eq_true (Nat.le_trans h.dp hk), decide_eq_true (Nat.le_trans (Nat.le_trans h1 h.wt) hw)]
  rfl
theorem wt_pos (d : D) : 4 ≤ wt d := by cases d <;> simp [wt]
theorem len_wt : ∀ ds : List D, 6 * ds.length ≤ wtAll ds
  | [] => by simp [wtAll]
  | d :: ds => by
    have := len_wt ds
    have := wt_pos d
    rw [wtAll, List.length_cons]
    omega
theorem wtA_append : ∀ a b : List D, wtAll (a ++ b) = wtAll a + wtAll b
  | [], b => by simp [wtAll]
  | d :: a, b => by rw [List.cons_append, wtAll, wtAll, wtA_append a b]; omega
theorem lvA_append (a b : List D) : lvAll (a ++ b) = (lvAll a && lvAll b) := by
  rw [Bool.eq_iff_iff, Bool.and_eq_true, lvAll_iff, lvAll_iff, lvAll_iff]
  simp only [List.mem_append]
  exact ⟨fun h => ⟨fun x hx => h x (.inl hx), fun x hx => h x (.inr hx)⟩, fun h x hx => hx.elim (h.1 x) (h.2 x)⟩
theorem dpA_iff {k : Nat} : ∀ {ds : List D}, PyData.depthAll ds ≤ k ↔ ∀ x ∈ ds, x.depth ≤ k
  | [] => by simp [PyData.depthAll]
  | d :: ds => by
    rw [PyData.depthAll, Nat.max_le, dpA_iff (ds := ds)]
    simp
/-- a row of good data -/
structure Gr (w k : Nat) (ds : List D) : Prop where
  lv : ∀ x ∈ ds, lv x = true
  wt : wtAll ds ≤ w
  dp : ∀ x ∈ ds, x.depth ≤ k
theorem Gr.len {w k : Nat} {ds : List D} (h : Gr w k ds) : 6 * ds.length ≤ w := Nat.le_trans (len_wt ds) h.wt
theorem Gr.list {w k : Nat} {ds : List D} (h : Gr w k ds) : Gd (w + 4) (k + 1) (.list ds) := ⟨by rw [Ol.lv]; exact lvAll_iff.mpr h.lv, by rw [Ol.wt]; have := h.wt; omega, by rw [PyData.depth]; have := dpA_iff.mpr h.dp; omega⟩
theorem Gr.tuple {w k : Nat} {ds : List D} (h : Gr w k ds) : Gd (w + 4) (k + 1) (.tuple ds) := ⟨by rw [Ol.lv]; exact lvAll_iff.mpr h.lv, by rw [Ol.wt]; have := h.wt; omega, by rw [PyData.depth]; have := dpA_iff.mpr h.dp; omega⟩
theorem Gr.append {w w' k : Nat} {a b : List D} (h : Gr w k a) (h' : Gr w' k b) : Gr (w + w') k (a ++ b) := ⟨fun x hx => (List.mem_append.mp hx).elim (h.lv x) (h'.lv x), by rw [wtA_append]; have := h.wt; have := h'.wt; omega, fun x hx => (List.mem_append.mp hx).elim (h.dp x) (h'.dp x)⟩
theorem Gr.sub {w k : Nat} {a b : List D} (h : Gr w k (a ++ b)) : Gr w k a ∧ Gr w k b := by
  have e := h.wt
  rw [wtA_append] at e
  exact ⟨⟨fun x hx => h.lv x (List.mem_append_left _ hx), by omega, fun x hx => h.dp x (List.mem_append_left _ hx)⟩, ⟨fun x hx => h.lv x (List.mem_append_right _ hx), by omega, fun x hx => h.dp x (List.mem_append_right _ hx)⟩⟩
theorem Gr.take {w k : Nat} {a : List D} (h : Gr w k a) (n : Nat) : Gr w k (a.take n) := (Gr.sub (b := a.drop n) (by rw [List.take_append_drop]; exact h)).1
theorem Gr.drop {w k : Nat} {a : List D} (h : Gr w k a) (n : Nat) : Gr w k (a.drop n) := (Gr.sub (a := a.take n) (by rw [List.take_append_drop]; exact h)).2
theorem wtA_mem : ∀ {ds : List D} {x : D}, x ∈ ds → wt x + 2 ≤ wtAll ds
  | d :: ds, x, h => by
    rw [wtAll]
    rcases List.mem_cons.mp h with rfl | h
    · omega
    · have := wtA_mem h; omega
theorem Gr.mem {w k : Nat} {a : List D} (h : Gr w k a) {x : D} (hx : x ∈ a) : Gd w k x := ⟨h.lv x hx, by have := wtA_mem hx; have := h.wt; omega, h.dp x hx⟩
theorem Gr.one {w k : Nat} {d : D} (h : Gd w k d) : Gr (w + 2) k [d] := ⟨fun x hx => by rw [List.mem_singleton.mp hx]; exact h.lv, by have := h.wt; simp [wtAll]; omega, fun x hx => by rw [List.mem_singleton.mp hx]; exact h.dp⟩
theorem Gr.mono {w k w' k' : Nat} {d : List D} (h : Gr w k d) (h1 : w ≤ w') (h2 : k ≤ k') : Gr w' k' d := ⟨h.lv, Nat.le_trans h.wt h1, fun x hx => Nat.le_trans (h.dp x hx) h2⟩
theorem wtA_rev : ∀ ds : List D, wtAll ds.reverse = wtAll ds
  | [] => rfl
  | d :: ds => by rw [List.reverse_cons, wtA_append, wtA_rev ds, wtAll]; simp [wtAll]; omega
theorem Gr.rev {w k : Nat} {a : List D} (h : Gr w k a) : Gr w k a.reverse := ⟨fun x hx => h.lv x (by simpa using hx), by rw [wtA_rev]; exact h.wt, fun x hx => h.dp x (by simpa using hx)⟩
theorem wtA_set : ∀ (ds : List D) (i : Nat) (x y : D), ds[i]? = some y → wtAll (ds.set i x) + wt y = wtAll ds + wt x
  | [], i, x, y, h => by cases h
  | d :: ds, 0, x, y, h => by
    have : d = y := Option.some.inj h
    subst this
    rw [List.set_cons_zero, wtAll, wtAll]; omega
  | d :: ds, i + 1, x, y, h => by
    have := wtA_set ds i x y h
    rw [List.set_cons_succ, wtAll, wtAll]; omega
theorem ev_gd {x : Ev} (h : ∀ c, x = some c → lvS c = true) : Gd 140 1 (ev x) := by
  cases x with
  | none => exact ⟨by decide +kernel, by decide +kernel, by decide +kernel⟩
  | some c =>
    have hc := h c rfl
    refine ⟨?_, ?_, ?_⟩
    · show lv (.tuple [.str "in", .str c]) = true
      rw [lv]
      refine lvAll_iff.mpr fun y hy => ?_
      rcases List.mem_cons.mp hy with rfl | hy
      · decide +kernel
      · rw [List.mem_singleton.mp hy, lv]; exact hc
    · show wt (.tuple [.str "in", .str c]) ≤ 140
      simp [wt, wtAll]
    · show PyData.depth (.tuple [.str "in", .str c]) ≤ 1
      simp [PyData.depth, PyData.depthAll]
theorem evs_gr : ∀ {es : List Ev}, (∀ c, some c ∈ es → lvS c = true) → Gr (142 * es.length) 1 (es.map ev)
  | [], _ => ⟨by simp, by simp [wtAll], by simp⟩
  | x :: es, h => by
    have ih := evs_gr (es := es) fun c hc => h c (List.mem_cons_of_mem _ hc)
    have h1 := ev_gd (x := x) fun c hc => h c (by rw [hc]; exact List.mem_cons_self)
    have := (Gr.one h1).append ih
    rw [List.map_cons, List.length_cons]
    exact this.mono (by omega) (Nat.le_refl _)
theorem strs_gr : ∀ {l : List Str}, (∀ c ∈ l, lvS c = true) → Gr (66 * l.length) 0 (l.map .str)
  | [], _ => ⟨by simp, by simp [wtAll], by simp⟩
  | x :: es, h => by
    have ih := strs_gr (l := es) fun c hc => h c (List.mem_cons_of_mem _ hc)
    have h1 : Gd 64 0 (.str x) := ⟨by rw [lv]; exact h x List.mem_cons_self, by simp [wt], by simp [PyData.depth]⟩
    have := (Gr.one h1).append ih
    rw [List.map_cons, List.length_cons]
    exact this.mono (by omega) (Nat.le_refl _)
end Ol
set_option Elab.async false
set_option linter.all false
set_option maxRecDepth 100000
set_option maxHeartbeats 4000000
/-! own: one check of the law -/
namespace Ol
open PySem PySem.Spec PyProof.Rows L2
theorem u_told {i : Nat} {ma mb mc : ME} {mt : MT} {env : Env} {QS : Rs → Prop} (h : W ma env fun x e1 => ∃ xs, x = .new (.lst xs) ∧ W mb e1 fun y e2 => ∃ ys, y = .new (.lst ys) ∧ W mc e2 fun z e3 => ∃ t zs, z = .tup [.d t, .new (.lst zs)] ∧ noOwn e3 = true ∧ i < e3.length ∧ xs.length < 100000 ∧ zs.length < 100000 ∧
    ∃ e4, store i (.d (.list [.list xs, .list ys, .tuple [t, .list zs]])) e3 = some e4 ∧ W mt e4 fun b e5 => b = false ∧ QS (.nx (sset e3 i none))) : WS (mTold i ma mb mc mt) env QS := by
  obtain ⟨x, e1, h1, xs, rfl, y, e2, h2, ys, rfl, z, e3, h3, t, zs, rfl, n, li, lx, lz, e4, h4, b, e5, h5, rfl, q⟩ := h
  refine ⟨_, ?_, q⟩
  have h4' : store i (.d (toldD xs ys t zs)) e3 = some e4 := h4
  have c : noOwn e3 = true ∧ i < e3.length ∧ xs.length < 100000 ∧ zs.length < 100000 := ⟨n, li, lx, lz⟩
  simp only [mTold, h1, h2, h3, lstP, pairP, Option.bind_some, h4', h5, c, and_self, if_true, Bool.false_eq_true, if_false]
/-- a log whose lanes stay small -/
structure LH (l : List Str) (es : List Ev) : Prop where
  lg : LG l es
  sm : ∀ i ∈ szs l.length es, i.natAbs ≤ 100
  ll : l.length ≤ 40
  el : es.length ≤ 120
theorem ints_gr : ∀ {l : List Int}, (∀ i ∈ l, i.natAbs ≤ 100) → Gr (66 * l.length) 0 (l.map .int)
  | [], _ => ⟨by simp, by simp [wtAll], by simp⟩
  | x :: es, h => by
    have ih := ints_gr (l := es) fun c hc => h c (List.mem_cons_of_mem _ hc)
    have h1 : Gd 64 0 (.int x) := ⟨by rw [lv]; exact decide_eq_true (h x List.mem_cons_self), by simp [wt], by simp [PyData.depth]⟩
    have := (Gr.one h1).append ih
    rw [List.map_cons, List.length_cons]
    exact this.mono (by omega) (Nat.le_refl _)
theorem sides_gr (bs : List Bool) : Gr (66 * bs.length) 0 (bs.map fun b => .str (sdS b)) := by
  have h := strs_gr (l := bs.map sdS) (fun c hc => by
    obtain ⟨b, _, rfl⟩ := List.mem_map.mp hc
    cases b <;> decide +kernel)
  rw [List.map_map, List.length_map] at h
  exact h
theorem o_neSS {a : Str} : oNeS (.d (.str a)) (.d (.str a)) = some (.d (.bool false)) := by simp [oNeS]
theorem depI : ∀ l : List Int, PyData.depthAll (l.map PyData.int) = 0
  | [] => rfl
  | x :: l => by rw [List.map_cons, PyData.depthAll, depI l]; rfl
theorem layI : ∀ l : List Int, PyData.canLayAll0 (l.map PyData.int) = true
  | [] => rfl
  | x :: l => by rw [List.map_cons, PyData.canLayAll0, layI l]; rfl
theorem sh_all {is : List Int} {l f g : List Str} (h0 : ∀ x ∈ l, PyData.strOk x = true) (h1 : ∀ x ∈ f, PyData.strOk x = true) (h2 : ∀ x ∈ g, PyData.strOk x = true) : SeqAt.shaped (.list [.list (is.map .int), .list (l.map .str), .tuple [sD f, .list (g.map .str)]]) = true := by
  simp [SeqAt.shaped, PyData.canLay0, PyData.canLayAll0, PyData.depth, PyData.depthAll, dep0, depI, layI, lay0 h0, lay0 h1, lay0 h2]
end Ol
set_option Elab.async false
set_option linter.all false
set_option maxRecDepth 100000
set_option maxHeartbeats 4000000
namespace Ol
open PySem PySem.Spec PyProof.Rows L2
theorem frt {l g : List Str} : frTup (.tup [.d (sD l), .new (.lst (g.map .str))]) = some (.d (.tuple [sD l, .list (g.map .str)])) := rfl
theorem u_frT {env : Env} {a : ME} {Q : PV → Env → Prop} (h : W a env fun x e => ∃ p, frTup x = some p ∧ Q p e) : W (mFrT a) env Q := by
  obtain ⟨x, e, h1, p, h2, q⟩ := h
  exact ⟨p, e, by simp only [mFrT, h1, h2, Option.bind_some], q⟩
structure RgI (l : List Str) (xs : List Mv) (sh : Str) (e : Env) : Prop where
  ex : ∃ v6 : Option D, e = [some (.d (sD l)), some (.d (lg (evs xs))), some (.d (sdL (xs.map (·.2)))), some (.d (.str sh)), some (.d (.list ((szs l.length (evs xs)).map .int))), some (.d (.list ((l ++ arr (evs xs)).map .str))), v6.map SV.d, none, some (.d (.list ((rws l xs).map sD))), some (.d (.list ((rp l xs).2.map .str))), none, none]
theorem rws_lens {l : List Str} {xs : List Mv} (h : Rm l (evs xs)) : ((rws l xs).map fun r => PyData.int ((r.map PyData.str).length : Nat)) = (szs l.length (evs xs)).map .int := by
  rw [← rws_szs l xs h, List.map_map]
  refine List.map_congr_left fun r _ => ?_
  simp
theorem toldA {A B C : D} : oAdd (.d (.list [A, B])) (.d (.list [C])) = some (.new (.lst [A, B, C])) := by
  rw [o_addL (by simp)]
  rfl
theorem o_neSE {a b : Str} (h : a = b) : oNeS (.d (.str a)) (.d (.str b)) = some (.d (.bool false)) := by
  subst h
  exact o_neSS
local macro_rules | `(tactic| walk_at "SD.R01u") => `(tactic| first
  | omega
  | (simp only [List.length_map, List.length_append, List.length_cons, List.length_nil, List.length_drop, List.length_take, List.length_dropLast, List.length_singleton, List.length_eraseIdx, List.length_zipIdx, List.length_range, List.length_range', List.length_reverse, List.length_set]; omega)
  | (with_reducible assumption))
local macro_rules | `(tactic| walk_at "CLEAN.R01u") => `(tactic| dsimp only [rd, rds, sget, sset, fz, fzs, fzP, flt, store, stores, svOf, comps, mNames, back, backs, Ob.rv, Ob.kind, pars, par, fzIO, putOuts, outsOf, okSlots, pick, wipeE, restE, frT, List.map, List.append_nil, List.nil_append, List.cons_append, List.replicate, Option.bind_some, bD, iD, if_true, reduceIte, List.getElem?_cons_zero, List.getElem?_cons_succ])
local macro_rules | `(tactic| walk_at "CL.R01u") => `(tactic| try (dsimp only [rd, rds, sget, sset, fz, fzs, fzP, flt, store, stores, svOf, comps, mNames, back, backs, Ob.rv, Ob.kind, pars, par, fzIO, putOuts, outsOf, okSlots, pick, wipeE, restE, frT, Option.map_some, List.map, List.append_nil, List.nil_append, List.cons_append, List.replicate, Option.bind_some, bD, iD, if_true, reduceIte, List.getElem?_cons_zero, List.getElem?_cons_succ]))
local macro_rules | `(tactic| walk_at "OP.R01u") => `(tactic| first
  | (with_reducible assumption)
  | (apply_rules (transparency := .reducible) (maxDepth := 1) only [in_tup, in_lst, in_set, in_dic, ix_list0, ix_list1, ix_tup0, ix_tup1, o_eqI, o_neI, ix_evI, ix_evC, ix_evO, o_eqII, o_eqOI, o_eqIO, o_eqOO, o_neNilI, o_eqNilI, o_rev, o_isB, strsOf_strs])
  | ((with_reducible refine o_addS ?_); walk_at "SD.R01u")
  | ((with_reducible refine o_addT ?_); walk_at "SD.R01u")
  | ((with_reducible refine o_addL ?_); walk_at "SD.R01u")
  | ((with_reducible refine f_append ?_); walk_at "SD.R01u")
  | (with_reducible exact o_txIn)
  | ((with_reducible refine o_reprJ ?_); (with_reducible assumption))
  | ((with_reducible refine o_div ?_ ?_) <;> walk_at "SD.R01u")
  | ((with_reducible refine o_mod ?_); walk_at "SD.R01u")
  | (with_reducible refine o_eqS (by first | assumption | exact ok_in | exact ok_out) (by first | assumption | exact ok_in | exact ok_out))
  | ((with_reducible refine o_ixS ?_ ?_) <;> walk_at "SD.R01u")
  | ((with_reducible refine o_ixT ?_ ?_) <;> walk_at "SD.R01u")
  | ((with_reducible refine f_setS ?_ ?_) <;> walk_at "SD.R01u")
  | ((with_reducible refine o_minL ?_); walk_at "SD.R01u")
  | ((with_reducible refine o_neNil ?_); (with_reducible assumption))
  | ((with_reducible refine o_eqNil ?_); (with_reducible assumption))
  | ((with_reducible refine f_popAt ?_ ?_ ?_) <;> walk_at "SD.R01u")
  | ((with_reducible exact o_neSS))
  | (((with_reducible refine o_neSE ?_); (with_reducible assumption)))
  | ((with_reducible exact o_rwsL))
  | ((with_reducible exact toldA))
  | ((with_reducible exact frt))
  | (((with_reducible refine o_eqEq ?_ ?_); (focus (exact rfl)); (focus (with_reducible assumption))))
  | ((fail_if_success (with_reducible apply may_pop)); exact rfl)
  | (exact store_om rfl rfl)
  | (exact store_oo rfl rfl)
  | walk_at "SD.R01u")
local macro_rules | `(tactic| walk_at "EV1.R01u") => `(tactic| (first
  | (apply_rules (transparency := .reducible) (maxDepth := 500) only [u_thn, u_thnR, u_turn, u_turnR, u_finN, u_finR, u_inx, u_seq, u_ifS, u_skip, u_asgF, u_asg, u_asgT, u_idx, u_listR, u_ssI, u_ss, u_drop, u_ret, u_retN, u_retT, u_par, u_setIx, u_for, u_break, u_cont, u_c, u_newT, u_dic0, u_repL, u_m1, u_m2, u_nil, u_cons, u_mB, u_tup, u_lst, u_test, u_tru, u_yes, u_andT, u_orT, u_notT, u_and, u_or, u_not, u_if, u_chain, u_noP, u_P, u_sl, u_meth, u_isi, u_isi2, u_call, u_callK, u_iter, u_enum, u_range1, u_range2, sp_tt, sp_ff, Exists.intro])
  | ((with_reducible refine u_mayVar ?_); first | (refine u_var rfl ?_) | (refine u_varO rfl ?_))
  | ((with_reducible refine u_mayAug ?_); (refine u_aug (by first | exact rfl | (walk_at "CLEAN.R01u"; exact rfl)) ?_))
  | ((with_reducible refine u_mayWG ?_); first | (refine u_g (by first | (walk_at "CLEAN.R01u"; exact rfl) | (walk_at "CLEAN.R01u"; done) | exact store_om rfl rfl | exact store_oo rfl rfl) ?_) | (refine u_gs (by first | (walk_at "CLEAN.R01u"; exact rfl) | (walk_at "CLEAN.R01u"; done)) ?_))
  | ((with_reducible refine sp_dt ?_ ?_); focus (first | assumption | omega))
  | ((with_reducible refine sp_df ?_ ?_); focus (first | assumption | omega))
  | ((with_reducible refine sp_et ?_ ?_); focus (first | assumption | omega))
  | ((with_reducible refine sp_ndt ?_ ?_); focus (first | assumption | omega))
  | ((with_reducible refine sp_ndf ?_ ?_); focus (first | assumption | omega))
  | ((with_reducible refine sp_ef ?_ ?_); focus (first | assumption | omega))
  | (with_reducible refine sp_t (by assumption) ?_)
  | (with_reducible refine sp_f (by assumption) ?_)
  | (with_reducible refine sp_nt (by first | assumption | rfl) ?_)
  | (with_reducible refine sp_nf (by first | assumption | rfl) ?_)
  | ((with_reducible refine sp_naT ?_ ?_); focus (exact rfl))
  | ((with_reducible refine sp_naF ?_ ?_); focus (exact rfl))
  | ((with_reducible refine sp_aT ?_ ?_); focus (exact rfl))
  | ((with_reducible refine sp_aF ?_ ?_); focus (exact rfl))
  | ((with_reducible refine sp_oaT ?_ ?_); focus (exact rfl))
  | ((with_reducible refine sp_oaF ?_ ?_); focus (exact rfl))
  | (with_reducible refine sp_d (fun hb => ?_) (fun hb => ?_))
  | (with_reducible refine sp_nd (fun hb => ?_) (fun hb => ?_))
  | (with_reducible refine sp_e (fun hb => ?_) (fun hb => ?_))
  | (with_reducible refine sp_ne (fun hb => ?_) (fun hb => ?_))
  | (with_reducible refine sp_xf (fun hb => ?_) (fun hb => ?_))
  | (with_reducible refine sp_xt (fun hb => ?_) (fun hb => ?_))
  | (with_reducible refine sp_b (fun hb => ?_) (fun hb => ?_))
  | ((with_reducible refine u_mayWF ?_); (try (first | (with_reducible refine u_svs1 ?_) | (with_reducible refine u_svs2 ?_) | (with_reducible refine u_svs3 ?_) | (with_reducible refine u_svs4 ?_) | (with_reducible refine u_svs5 ?_) | (with_reducible refine u_svs6 ?_) | (with_reducible refine u_svs7 ?_) | (with_reducible refine u_svs8 ?_))); (first | ((with_reducible refine w_rows (by assumption) ?_)) | ((with_reducible refine y_replay (by assumption) ?_)) | ((with_reducible refine y_sizes (by assumption) ?_)) | ((with_reducible refine y_numbers (by assumption) ?_)) | fail))
  | ((with_reducible refine And.intro ?_ ?_); focus (first | (walk_at "CLEAN.R01u"; walk_at "OP.R01u"; done) | (walk_at "CLEAN.R01u"; done) | (walk_at "OP.R01u"; done)))
  | fail))
local macro_rules | `(tactic| walk_at "EV.R01u") => `(tactic| repeat' (first | walk_at "EV1.R01u" | fail))
local macro_rules | `(tactic| walk_at "CE.R01u") => `(tactic| try (dsimp only [sset, wipeE, restE, List.map, List.cons_append, List.nil_append, List.append_nil, List.replicate]))
theorem w_right {l : List Str} {xs : List Mv} {Q : PV → List (Option Ob) → Prop} (h : LH l (evs xs)) (q : Q (.d (.bool true)) [none, none, none]) : WF fn__law_right [.d (sD l), .d (lg (evs xs)), .d (sdL (xs.map (·.2)))] Q := by
  have hg := h.lg
  have hll := h.ll
  have hel := h.el
  rw [List.length_map] at hel
  have har : (arr (evs xs)).length ≤ (evs xs).length := List.length_filterMap_le _ _
  rw [List.length_map] at har
  have kX := rp_small l xs
  have lvA : ∀ c ∈ l ++ arr (evs xs), lvS c = true := fun c hc => (hg.car c hc).2
  have lvX : ∀ c, c ∈ (rp l xs).1 ++ (rp l xs).2 → lvS c = true := fun c hc => lvA c ((rp_perm l xs).mem_iff.mp hc)
  have hS : okShowJ (.list [sD l, lg (evs xs), sdL (xs.map (·.2))]) = true := by
    have g1 := (Gr.one ((strs_gr (l := l) fun c hc => lvA c (List.mem_append_left _ hc)).tuple)).mono (Nat.le_refl _) (by omega : 1 ≤ 2)
    have g2 := (Gr.one ((evs_gr (es := evs xs) fun c hc => lvA c (List.mem_append_right _ (List.mem_filterMap.mpr ⟨some c, hc, rfl⟩))).list))
    have g3 := (Gr.one ((sides_gr (xs.map (·.2))).list)).mono (Nat.le_refl _) (by omega : 1 ≤ 2)
    have g := ((g1.append g2).append g3).list
    simp only [List.length_map] at g
    exact g.show (by omega) (by omega)
  have hT : okShowJ (.list [.list ((szs l.length (evs xs)).map .int), .list ((l ++ arr (evs xs)).map .str), .tuple [sD (rp l xs).1, .list ((rp l xs).2.map .str)]]) = true := by
    have g1 := (Gr.one ((ints_gr h.sm).list)).mono (Nat.le_refl _) (by omega : 1 ≤ 2)
    have g2 := (Gr.one ((strs_gr lvA).list)).mono (Nat.le_refl _) (by omega : 1 ≤ 2)
    have g3 := Gr.one ((strs_gr (l := (rp l xs).1) fun c hc => lvX c (List.mem_append_left _ hc)).tuple)
    have g4 := Gr.one ((strs_gr (l := (rp l xs).2) fun c hc => lvX c (List.mem_append_right _ hc)).list)
    have g := ((g1.append g2).append (Gr.one (g3.append g4).tuple)).list
    simp only [List.length_map, List.length_append, szs_len] at g
    exact g.show (by omega) (by omega)
  have okA : ∀ x, x ∈ l ++ arr (evs xs) → PyData.strOk x = true := fun x hx => lvS_ok (lvA x hx)
  have sh := sh_all (is := szs l.length (evs xs)) (l := l ++ arr (evs xs)) (f := (rp l xs).1) (g := (rp l xs).2) okA (fun x hx => lvS_ok (lvX x (List.mem_append_left _ hx))) (fun x hx => lvS_ok (lvX x (List.mem_append_right _ hx)))
  have hrl := rws_len l xs
  refine u_fn rfl ?_
  unfold m__law_right
  walk_at "CLEAN.R01u"
  walk_at "EV.R01u"
  refine u_filtW sD (rws l xs) (fun _ => true) (fun r => .int ((r.map PyData.str).length : Nat)) ?_
  walk_at "EV.R01u"
  refine ⟨fun r hr => ?_, by omega, ?_⟩
  · have hrr : r.length ≤ 1000 := by
      obtain ⟨k, _, rfl⟩ := List.mem_map.mp hr
      have z1 := rp_small l (xs.take k)
      have z2 : (xs.take k).length ≤ xs.length := by simp; omega
      omega
    walk_at "EV.R01u"
    all_goals rfl
  rw [List.filter_eq_self.mpr (fun _ _ => rfl), rws_lens hg.room]
  walk_at "EV.R01u"
  refine u_filtW ev (evs xs) Option.isSome (fun x : Ev => PyData.str (x.getD ⟨#[]⟩)) ?_
  walk_at "EV.R01u"
  refine ⟨fun b hb => ?_, by rw [List.length_map]; omega, ?_⟩
  · cases b with
    | some y =>
      walk_at "EV.R01u"
      all_goals rfl
    | none =>
      walk_at "EV.R01u"
      all_goals first
        | rfl
        | (rename_i z; exact absurd z (by decide))
        | exact .d .none
  rw [filt_arr]
  walk_at "EV.R01u"
  rw [← List.map_append]
  generalize hSH : PyData.shown _ = SH
  refine u_forI (fun i e => RgI l xs SH e) _ ⟨none, rfl⟩ ?_ ?_
  · rintro i x e hx ⟨v6, rfl⟩
    refine ⟨_, store_om rfl rfl, ?_⟩
    refine u_told ?_
    walk_at "EV.R01u"
    refine ⟨by simp [szs_len]; omega, by simp; omega, ?_⟩
    walk_at "EV.R01u"
    exact ⟨some x, rfl⟩
  · rintro e ⟨v6, rfl⟩
    walk_at "EV.R01u"
    refine u_frT ?_
    walk_at "EV.R01u"
    exact q
end Ol
set_option Elab.async false
set_option linter.all false
set_option maxRecDepth 100000
set_option maxHeartbeats 4000000
namespace Ol
open PySem PySem.Spec PyProof.Rows L2
theorem let_at (j : Nat) (h : j < 26) : oIx (.d (.str "abcdefghijklmnopqrstuvwxyz")) (.d (.int (j : Nat))) = some (.d (.str ⟨#[97 + j]⟩)) := by
  match j, h with
  | 0, _ => kernel_rfl
  | 1, _ => kernel_rfl
  | 2, _ => kernel_rfl
  | 3, _ => kernel_rfl
  | 4, _ => kernel_rfl
  | 5, _ => kernel_rfl
  | 6, _ => kernel_rfl
  | 7, _ => kernel_rfl
  | 8, _ => kernel_rfl
  | 9, _ => kernel_rfl
  | 10, _ => kernel_rfl
  | 11, _ => kernel_rfl
  | 12, _ => kernel_rfl
  | 13, _ => kernel_rfl
  | 14, _ => kernel_rfl
  | 15, _ => kernel_rfl
  | 16, _ => kernel_rfl
  | 17, _ => kernel_rfl
  | 18, _ => kernel_rfl
  | 19, _ => kernel_rfl
  | 20, _ => kernel_rfl
  | 21, _ => kernel_rfl
  | 22, _ => kernel_rfl
  | 23, _ => kernel_rfl
  | 24, _ => kernel_rfl
  | 25, _ => kernel_rfl
  | j + 26, h => omega
def nmK (k : Nat) : Str := ⟨#[97 + k / 26, 97 + k % 26]⟩
def nmR (k : Nat) : Str := ⟨#[97 + k % 26, 97 + k / 26]⟩
def nmZ (k : Nat) : Str := ⟨#[122, 121, 97 + k / 26, 97 + k % 26]⟩
def nmQ (k : Nat) : Str := ⟨#[97 + k / 26, 97 + k % 26, 113]⟩
theorem nmZ_is (k : Nat) : ("zy" : Str) ++ nmK k = nmZ k := by kernel_rfl
theorem nmQ_is (k : Nat) : nmK k ++ ("q" : Str) = nmQ k := by kernel_rfl
def wds : List Str := [[105, 110], [111, 117, 116], [108], [114], [97], [122, 122, 122, 122], [97, 97, 97, 97], [110, 111, 110, 101], [120]].map fun l => ⟨l.toArray⟩
theorem wds_is : wds = (["in", "out", "l", "r", "a", "zzzz", "aaaa", "none", "x"] : List Str) := by kernel_rfl
def flS (st : Int) (m : Nat) : List Str :=
  if st = 0 then (List.range m).map nmZ
  else if st = 1 then (List.range m).map nmR
  else if st = 2 then (wds ++ (List.range m).map nmQ).take m
  else (List.range m).map nmK
def flB (st : Int) : List Str :=
  if st = 0 then (List.range 170).map nmZ
  else if st = 1 then (List.range 170).map nmR
  else if st = 2 then wds ++ (List.range 170).map nmQ
  else (List.range 170).map nmK
theorem range_take (m : Nat) (h : m ≤ 170) : List.range m = (List.range 170).take m := by
  rw [List.take_range, Nat.min_eq_left h]
theorem fl_take (st : Int) (m : Nat) (h : m ≤ 170) : flS st m = (flB st).take m := by
  unfold flS flB
  split
  · rw [range_take m h, List.map_take]
  · split
    · rw [range_take m h, List.map_take]
    · split
      · rw [range_take m h, List.map_take, List.take_append, List.take_append, List.take_take]
        congr 2
        omega
      · rw [range_take m h, List.map_take]
theorem fl_z : ((List.range 170).map nmZ).Nodup ∧ ((List.range 170).map nmZ).all (fun x => carB x && lvS x) = true := by decide +kernel
theorem fl_r : ((List.range 170).map nmR).Nodup ∧ ((List.range 170).map nmR).all (fun x => carB x && lvS x) = true := by decide +kernel
theorem fl_k : ((List.range 170).map nmK).Nodup ∧ ((List.range 170).map nmK).all (fun x => carB x && lvS x) = true := by decide +kernel
theorem fl_q : (wds ++ (List.range 170).map nmQ).Nodup ∧ (wds ++ (List.range 170).map nmQ).all (fun x => carB x && lvS x) = true := by decide +kernel
theorem all_cl {l : List Str} (h : l.Nodup ∧ l.all (fun x => carB x && lvS x) = true) : l.Nodup ∧ ∀ x ∈ l, carB x = true ∧ lvS x = true := ⟨h.1, fun x hx => by simpa using List.all_eq_true.mp h.2 x hx⟩
theorem flB_is (st : Int) (h : 0 ≤ st) (h2 : st < 4) : (flB st).Nodup ∧ ∀ x ∈ flB st, carB x = true ∧ lvS x = true := by
  unfold flB
  split
  · exact all_cl fl_z
  · split
    · exact all_cl fl_r
    · split
      · exact all_cl fl_q
      · exact all_cl fl_k
theorem fl_len (st : Int) (m : Nat) (h : m ≤ 170) : (flS st m).length = m := by
  rw [fl_take st m h, List.length_take]
  have : 170 ≤ (flB st).length := by
    unfold flB
    split
    · simp
    · split
      · simp
      · split <;> simp
  omega
end Ol
set_option Elab.async false
set_option linter.all false
set_option maxRecDepth 100000
set_option maxHeartbeats 4000000
namespace Ol
open PySem PySem.Spec PyProof.Rows L2
theorem rangeD_nat (n : Nat) : rangeD 0 n = (List.range n).map fun i => .int (i : Nat) := by
  simp [rangeD]
structure MxI (things : List Str) (n : Nat) (b : Int) (acc : List D) (e : Env) : Prop where
  ex : ∃ (rest got : List Str) (a c : Int), e = [some (.own true (scO a b c)), some (.d (.list (things.map .str))), some (.own false (.lst (rest.map .str))), none] ∧ acc = got.map .str ∧ List.Perm (got ++ rest) things ∧ Sc (n + acc.length) a b c
local macro_rules | `(tactic| walk_at "SD.Q04i") => `(tactic| first
  | omega
  | (simp only [List.length_map, List.length_append, List.length_cons, List.length_nil, List.length_drop, List.length_take, List.length_dropLast, List.length_singleton, List.length_eraseIdx, List.length_zipIdx, List.length_range, List.length_range', List.length_reverse, List.length_set]; omega)
  | (with_reducible assumption))
local macro_rules | `(tactic| walk_at "CLEAN.Q04i") => `(tactic| dsimp only [rd, rds, sget, sset, fz, fzs, fzP, flt, store, stores, svOf, comps, mNames, back, backs, Ob.rv, Ob.kind, pars, par, fzIO, putOuts, outsOf, okSlots, pick, wipeE, restE, frT, List.map_cons, List.map_nil, List.append_nil, List.nil_append, List.cons_append, List.replicate, Option.bind_some, bD, iD, if_true, reduceIte, List.getElem?_cons_zero, List.getElem?_cons_succ])
local macro_rules | `(tactic| walk_at "CL.Q04i") => `(tactic| try (dsimp only [rd, rds, sget, sset, fz, fzs, fzP, flt, store, stores, svOf, comps, mNames, back, backs, Ob.rv, Ob.kind, pars, par, fzIO, putOuts, outsOf, okSlots, pick, wipeE, restE, frT, Option.map_some, List.map_cons, List.map_nil, List.append_nil, List.nil_append, List.cons_append, List.replicate, Option.bind_some, bD, iD, if_true, reduceIte, List.getElem?_cons_zero, List.getElem?_cons_succ]))
local macro_rules | `(tactic| walk_at "OP.Q04i") => `(tactic| first
  | (with_reducible assumption)
  | (apply_rules (transparency := .reducible) (maxDepth := 1) only [in_tup, in_lst, in_set, in_dic, ix_list0, ix_list1, ix_tup0, ix_tup1, o_eqI, o_neI, ix_evI, ix_evC, ix_evO, o_eqII, o_eqOI, o_eqIO, o_eqOO, o_neNilI, o_eqNilI, o_rev, o_isB, strsOf_strs])
  | ((with_reducible refine o_addS ?_); walk_at "SD.Q04i")
  | ((with_reducible refine o_addT ?_); walk_at "SD.Q04i")
  | ((with_reducible refine o_addL ?_); walk_at "SD.Q04i")
  | ((with_reducible refine f_append ?_); walk_at "SD.Q04i")
  | (with_reducible exact o_txIn)
  | ((with_reducible refine o_reprJ ?_); (with_reducible assumption))
  | ((with_reducible refine o_div ?_ ?_) <;> walk_at "SD.Q04i")
  | ((with_reducible refine o_mod ?_); walk_at "SD.Q04i")
  | (with_reducible refine o_eqS (by first | assumption | exact ok_in | exact ok_out) (by first | assumption | exact ok_in | exact ok_out))
  | ((with_reducible refine o_ixS ?_ ?_) <;> walk_at "SD.Q04i")
  | ((with_reducible refine o_ixT ?_ ?_) <;> walk_at "SD.Q04i")
  | ((with_reducible refine f_setS ?_ ?_) <;> walk_at "SD.Q04i")
  | ((with_reducible refine o_minL ?_); walk_at "SD.Q04i")
  | ((with_reducible refine o_neNil ?_); (with_reducible assumption))
  | ((with_reducible refine o_eqNil ?_); (with_reducible assumption))
  | ((with_reducible refine f_popAt ?_ ?_ ?_) <;> walk_at "SD.Q04i")
  | ((fail_if_success (with_reducible apply may_pop)); exact rfl)
  | (exact store_om rfl rfl)
  | (exact store_oo rfl rfl)
  | walk_at "SD.Q04i")
local macro_rules | `(tactic| walk_at "EV1.Q04i") => `(tactic| (first
  | (apply_rules (transparency := .reducible) (maxDepth := 500) only [u_thn, u_thnR, u_turn, u_turnR, u_finN, u_finR, u_inx, u_seq, u_ifS, u_skip, u_asgF, u_asg, u_asgT, u_idx, u_listR, u_ssI, u_ss, u_drop, u_ret, u_retN, u_retT, u_par, u_setIx, u_for, u_break, u_cont, u_c, u_newT, u_dic0, u_repL, u_m1, u_m2, u_nil, u_cons, u_mB, u_tup, u_lst, u_test, u_tru, u_yes, u_andT, u_orT, u_notT, u_and, u_or, u_not, u_if, u_chain, u_noP, u_P, u_sl, u_meth, u_isi, u_isi2, u_call, u_callK, u_iter, u_enum, u_range1, u_range2, sp_tt, sp_ff, Exists.intro])
  | ((with_reducible refine u_mayVar ?_); first | (refine u_var rfl ?_) | (refine u_varO rfl ?_))
  | ((with_reducible refine u_mayAug ?_); (refine u_aug (by first | exact rfl | (walk_at "CLEAN.Q04i"; exact rfl)) ?_))
  | ((with_reducible refine u_mayWG ?_); first | (refine u_g (by first | (walk_at "CLEAN.Q04i"; exact rfl) | (walk_at "CLEAN.Q04i"; done) | exact store_om rfl rfl | exact store_oo rfl rfl) ?_) | (refine u_gs (by first | (walk_at "CLEAN.Q04i"; exact rfl) | (walk_at "CLEAN.Q04i"; done)) ?_))
  | ((with_reducible refine sp_dt ?_ ?_); focus (first | assumption | omega))
  | ((with_reducible refine sp_df ?_ ?_); focus (first | assumption | omega))
  | ((with_reducible refine sp_et ?_ ?_); focus (first | assumption | omega))
  | ((with_reducible refine sp_ndt ?_ ?_); focus (first | assumption | omega))
  | ((with_reducible refine sp_ndf ?_ ?_); focus (first | assumption | omega))
  | ((with_reducible refine sp_ef ?_ ?_); focus (first | assumption | omega))
  | (with_reducible refine sp_t (by assumption) ?_)
  | (with_reducible refine sp_f (by assumption) ?_)
  | (with_reducible refine sp_nt (by first | assumption | rfl) ?_)
  | (with_reducible refine sp_nf (by first | assumption | rfl) ?_)
  | ((with_reducible refine sp_naT ?_ ?_); focus (exact rfl))
  | ((with_reducible refine sp_naF ?_ ?_); focus (exact rfl))
  | ((with_reducible refine sp_aT ?_ ?_); focus (exact rfl))
  | ((with_reducible refine sp_aF ?_ ?_); focus (exact rfl))
  | ((with_reducible refine sp_oaT ?_ ?_); focus (exact rfl))
  | ((with_reducible refine sp_oaF ?_ ?_); focus (exact rfl))
  | (with_reducible refine sp_d (fun hb => ?_) (fun hb => ?_))
  | (with_reducible refine sp_nd (fun hb => ?_) (fun hb => ?_))
  | (with_reducible refine sp_e (fun hb => ?_) (fun hb => ?_))
  | (with_reducible refine sp_ne (fun hb => ?_) (fun hb => ?_))
  | (with_reducible refine sp_xf (fun hb => ?_) (fun hb => ?_))
  | (with_reducible refine sp_xt (fun hb => ?_) (fun hb => ?_))
  | (with_reducible refine sp_b (fun hb => ?_) (fun hb => ?_))
  | ((with_reducible refine u_mayWF ?_); (try (first | (with_reducible refine u_svs1 ?_) | (with_reducible refine u_svs2 ?_) | (with_reducible refine u_svs3 ?_) | (with_reducible refine u_svs4 ?_) | (with_reducible refine u_svs5 ?_) | (with_reducible refine u_svs6 ?_) | (with_reducible refine u_svs7 ?_) | (with_reducible refine u_svs8 ?_))); (first | ((with_reducible refine w_draw (by assumption) ?_ ?_ ?_ ?_); (walk_at "SD.Q04i"); (walk_at "SD.Q04i"); (walk_at "SD.Q04i"); intro r a1 c1 h1 h2 h3; try simp only [List.length_map, List.length_append, List.length_cons, List.length_nil] at h3) | fail))
  | ((with_reducible refine And.intro ?_ ?_); focus (first | (walk_at "CLEAN.Q04i"; walk_at "OP.Q04i"; done) | (walk_at "CLEAN.Q04i"; done) | (walk_at "OP.Q04i"; done)))
  | fail))
local macro_rules | `(tactic| walk_at "EV.Q04i") => `(tactic| repeat' (first | walk_at "EV1.Q04i" | fail))
local macro_rules | `(tactic| walk_at "CE.Q04i") => `(tactic| try (dsimp only [sset, wipeE, restE, List.map, List.cons_append, List.nil_append, List.append_nil, List.replicate]))
theorem w_mixed {n : Nat} {a b c : Int} {things : List Str} {Q : PV → List (Option Ob) → Prop} (h : Sc n a b c) (hn : n ≤ 100000000) (hm : things.length ≤ 1000) (q : ∀ (got : List Str) (a' c' : Int), List.Perm got things → Sc (n + things.length) a' b c' → Q (.new (.lst (got.map .str))) [some (scO a' b c'), none]) : WF fn__law_mixed [.own true (scO a b c), .d (.list (things.map .str))] Q := by
  refine u_fn rfl ?_
  unfold m__law_mixed
  walk_at "CLEAN.Q04i"
  walk_at "EV.Q04i"
  refine u_comp (fun i => PyData.int (i : Nat)) (List.range things.length) (fun d acc e => MxI things n b acc e ∧ acc.length = d.length) ?_
  walk_at "EV.Q04i"
  refine ⟨by rw [← rangeD_nat]; simp, ⟨⟨things, [], a, c, rfl, rfl, List.Perm.refl _, h⟩, rfl⟩, ?_, ?_⟩
  · intro d x r acc e hl hi
    obtain ⟨⟨rest, got, a, c, rfl, rfl, hp, hb⟩, hlen⟩ := hi
    have hpl := hp.length_eq
    have hrl := congrArg List.length hl
    rw [List.length_append] at hpl
    rw [List.length_map] at hb hlen
    rw [List.length_range, List.length_append, List.length_cons] at hrl
    walk_at "EV.Q04i"
    rename_i r a1 c1 k3 k1 k2
    refine ⟨⟨dropAt rest r, got ++ [gt rest r], a1, c1, rfl, by simp, ?_, ?_⟩, ?_⟩
    · rw [List.append_assoc]
      exact (List.Perm.append_left got (gt_perm k1 k2).symm).trans hp
    · rw [List.length_append, List.length_map, List.length_singleton]
      exact k3
    · simp [hlen]
  · intro acc e hi
    obtain ⟨⟨rest, got, a1, c1, rfl, rfl, hp, hb⟩, hlen⟩ := hi
    walk_at "EV.Q04i"
    rw [List.length_map, List.length_range] at hlen
    have hpl := hp.length_eq
    rw [List.length_append] at hpl
    have : rest = [] := List.eq_nil_of_length_eq_zero (by omega)
    subst this
    rw [List.append_nil] at hp
    refine q got a1 c1 hp ?_
    rw [List.length_map] at hb
    exact hb.mono (by omega)
end Ol
set_option Elab.async false
set_option linter.all false
set_option maxRecDepth 100000
set_option maxHeartbeats 4000000
namespace Ol
open PySem PySem.Spec PyProof.Rows L2
theorem let_atI {i : Int} (h0 : 0 ≤ i) (h1 : i < 26) : oIx (.d (.str "abcdefghijklmnopqrstuvwxyz")) (.d (.int i)) = some (.d (.str ⟨#[97 + i.toNat]⟩)) := by
  obtain ⟨j, rfl⟩ : ∃ j : Nat, i = j := ⟨i.toNat, by omega⟩
  exact let_at j (by omega)
theorem o_add11 {x y : Nat} : oAdd (.d (.str ⟨#[x]⟩)) (.d (.str ⟨#[y]⟩)) = some (.d (.str ⟨#[x, y]⟩)) := by
  refine o_addS ?_
  show 1 + 1 ≤ 100000
  omega
theorem two_is (k : Nat) : (⟨#[97 + ((k : Int) / 26).toNat, 97 + ((k : Int) % 26).toNat]⟩ : Str) = nmK k := by
  have h1 : ((k : Int) / 26).toNat = k / 26 := by omega
  have h2 : ((k : Int) % 26).toNat = k % 26 := by omega
  rw [h1, h2]
  rfl
theorem o_zy {k : Nat} : oAdd (.d (.str "zy")) (.d (.str (nmK k))) = some (.d (.str (nmZ k))) := by
  rw [o_addS (a := "zy") (b := nmK k) (by show 2 + 2 ≤ 100000; omega), nmZ_is]
theorem o_q {k : Nat} : oAdd (.d (.str (nmK k))) (.d (.str "q")) = some (.d (.str (nmQ k))) := by
  rw [o_addS (a := nmK k) (b := "q") (by show 2 + 1 ≤ 100000; omega), nmQ_is]
theorem ix_nm1 {k : Nat} : oIx (.d (.str (nmK k))) (.d (.int 1)) = some (.d (.str ⟨#[97 + k % 26]⟩)) := rfl
theorem ix_nm0 {k : Nat} : oIx (.d (.str (nmK k))) (.d (.int 0)) = some (.d (.str ⟨#[97 + k / 26]⟩)) := rfl
theorem o_rr {k : Nat} : oAdd (.d (.str ⟨#[97 + k % 26]⟩)) (.d (.str ⟨#[97 + k / 26]⟩)) = some (.d (.str (nmR k))) := o_add11
theorem map_nm (f : Nat → Str) (m : Nat) : ((List.range m).filter fun _ => true).map (fun k => PyData.str (f k)) = ((List.range m).map f).map .str := by
  rw [List.filter_eq_self.mpr (fun _ _ => rfl), List.map_map]; rfl
def vhT : MS := (mSeq (mIfS (mTest (m2 oEq (mVar 4) (mC (.int 0)))) (mAsgF 3 (mCompN [("name", 6)] (store 6) (mIter (mVar 3)) mYes (m2 oAdd (mC (.str "zy")) (mVar 6)))) mSkip) (mSeq (mIfS (mTest (m2 oEq (mVar 4) (mC (.int 1)))) (mAsgF 3 (mCompN [("name", 6)] (store 6) (mIter (mVar 3)) mYes (m2 oAdd (m2 oIx (mVar 6) (mC (.int 1))) (m2 oIx (mVar 6) (mC (.int 0)))))) mSkip) (mSeq (mIfS (mTest (m2 oEq (mVar 4) (mC (.int 2)))) (mAsgF 3 (mSl (m2 oAdd (mLst (mCons (mC (.str "in")) (mCons (mC (.str "out")) (mCons (mC (.str "l")) (mCons (mC (.str "r")) (mCons (mC (.str "a")) (mCons (mC (.str "zzzz")) (mCons (mC (.str "aaaa")) (mCons (mC (.str "none")) (mCons (mC (.str "x")) mNil)))))))))) (mCompN [("name", 6)] (store 6) (mIter (mVar 3)) mYes (m2 oAdd (mVar 6) (mC (.str "q"))))) mNoP (mP (mVar 1)))) mSkip) (mRet (mCall [true, false] fn__law_mixed (mCons (mVar 0) (mCons (mVar 3) mNil)))))))
def vhU : MS := (mRet (mCall [true, false] fn__law_mixed (mCons (mVar 0) (mCons (mVar 3) mNil))))
theorem vh_is : m__law_vehicles = mSeq (mAsgF 2 (mC (.str "abcdefghijklmnopqrstuvwxyz"))) (mSeq (mAsgF 3 (mCompN [("k", 5)] (store 5) (mRange1 (mCons (mVar 1) mNil)) mYes (m2 oAdd (m2 oIx (mVar 2) (m2 oDiv (mVar 5) (mC (.int 26)))) (m2 oIx (mVar 2) (m2 oMod (mVar 5) (mC (.int 26))))))) (mSeq (mAsgF 4 (mCall [true, false] fn__law_draw (mCons (mVar 0) (mCons (mC (.int 4)) mNil)))) vhT)) := rfl
theorem vhT_is : vhT = mSeq (mIfS (mTest (m2 oEq (mVar 4) (mC (.int 0)))) (mAsgF 3 (mCompN [("name", 6)] (store 6) (mIter (mVar 3)) mYes (m2 oAdd (mC (.str "zy")) (mVar 6)))) mSkip) (mSeq (mIfS (mTest (m2 oEq (mVar 4) (mC (.int 1)))) (mAsgF 3 (mCompN [("name", 6)] (store 6) (mIter (mVar 3)) mYes (m2 oAdd (m2 oIx (mVar 6) (mC (.int 1))) (m2 oIx (mVar 6) (mC (.int 0)))))) mSkip) (mSeq (mIfS (mTest (m2 oEq (mVar 4) (mC (.int 2)))) (mAsgF 3 (mSl (m2 oAdd (mLst (mCons (mC (.str "in")) (mCons (mC (.str "out")) (mCons (mC (.str "l")) (mCons (mC (.str "r")) (mCons (mC (.str "a")) (mCons (mC (.str "zzzz")) (mCons (mC (.str "aaaa")) (mCons (mC (.str "none")) (mCons (mC (.str "x")) mNil)))))))))) (mCompN [("name", 6)] (store 6) (mIter (mVar 3)) mYes (m2 oAdd (mVar 6) (mC (.str "q"))))) mNoP (mP (mVar 1)))) mSkip) vhU)) := rfl
theorem words_is (m : Nat) : cutD (PyData.str "in" :: PyData.str "out" :: PyData.str "l" :: PyData.str "r" :: PyData.str "a" :: PyData.str "zzzz" :: PyData.str "aaaa" :: PyData.str "none" :: PyData.str "x" :: ((List.range m).map nmQ).map PyData.str) none (some ((m : Nat) : Int)) = (flS 2 m).map .str := by
  rw [cut_to _ _ (by omega) (by simp; omega)]
  show _ = (List.take m (wds ++ (List.range m).map nmQ)).map PyData.str
  rw [wds_is, List.map_take, List.map_append, Int.toNat_natCast]
  rfl
def e7 (a b c : Int) (m : Nat) (f : List Str) (r : Int) : Env := [some (.own true (scO a b c)), some (.d (.int (m : Nat))), some (.d (.str "abcdefghijklmnopqrstuvwxyz")), some (.d (.list (f.map .str))), some (.d (.int r)), none, none]
local macro_rules | `(tactic| walk_at "SD.Q04j") => `(tactic| first
  | omega
  | (simp only [List.length_map, List.length_append, List.length_cons, List.length_nil, List.length_drop, List.length_take, List.length_dropLast, List.length_singleton, List.length_eraseIdx, List.length_zipIdx, List.length_range, List.length_range', List.length_reverse, List.length_set]; omega)
  | (with_reducible assumption))
local macro_rules | `(tactic| walk_at "CLEAN.Q04j") => `(tactic| dsimp only [rd, rds, sget, sset, fz, fzs, fzP, flt, store, stores, svOf, comps, mNames, back, backs, Ob.rv, Ob.kind, pars, par, fzIO, putOuts, outsOf, okSlots, pick, wipeE, restE, frT, List.map, List.append_nil, List.nil_append, List.cons_append, List.replicate, Option.bind_some, bD, iD, if_true, reduceIte, List.getElem?_cons_zero, List.getElem?_cons_succ])
local macro_rules | `(tactic| walk_at "CL.Q04j") => `(tactic| try (dsimp only [rd, rds, sget, sset, fz, fzs, fzP, flt, store, stores, svOf, comps, mNames, back, backs, Ob.rv, Ob.kind, pars, par, fzIO, putOuts, outsOf, okSlots, pick, wipeE, restE, frT, Option.map_some, List.map, List.append_nil, List.nil_append, List.cons_append, List.replicate, Option.bind_some, bD, iD, if_true, reduceIte, List.getElem?_cons_zero, List.getElem?_cons_succ]))
local macro_rules | `(tactic| walk_at "OP.Q04j") => `(tactic| first
  | (with_reducible assumption)
  | (apply_rules (transparency := .reducible) (maxDepth := 1) only [in_tup, in_lst, in_set, in_dic, ix_list0, ix_list1, ix_tup0, ix_tup1, o_eqI, o_neI, ix_evI, ix_evC, ix_evO, o_eqII, o_eqOI, o_eqIO, o_eqOO, o_neNilI, o_eqNilI, o_rev, o_isB, strsOf_strs])
  | ((with_reducible refine o_addS ?_); walk_at "SD.Q04j")
  | ((with_reducible refine o_addT ?_); walk_at "SD.Q04j")
  | ((with_reducible refine o_addL ?_); walk_at "SD.Q04j")
  | ((with_reducible refine f_append ?_); walk_at "SD.Q04j")
  | (with_reducible exact o_txIn)
  | ((with_reducible refine o_reprJ ?_); (with_reducible assumption))
  | ((with_reducible refine o_div ?_ ?_) <;> walk_at "SD.Q04j")
  | ((with_reducible refine o_mod ?_); walk_at "SD.Q04j")
  | (with_reducible refine o_eqS (by first | assumption | exact ok_in | exact ok_out) (by first | assumption | exact ok_in | exact ok_out))
  | ((with_reducible refine o_ixS ?_ ?_) <;> walk_at "SD.Q04j")
  | ((with_reducible refine o_ixT ?_ ?_) <;> walk_at "SD.Q04j")
  | ((with_reducible refine f_setS ?_ ?_) <;> walk_at "SD.Q04j")
  | ((with_reducible refine o_minL ?_); walk_at "SD.Q04j")
  | ((with_reducible refine o_neNil ?_); (with_reducible assumption))
  | ((with_reducible refine o_eqNil ?_); (with_reducible assumption))
  | ((with_reducible refine f_popAt ?_ ?_ ?_) <;> walk_at "SD.Q04j")
  | ((with_reducible exact o_add11))
  | ((with_reducible exact o_zy))
  | ((with_reducible exact o_q))
  | ((with_reducible exact o_rr))
  | ((with_reducible exact ix_nm0))
  | ((with_reducible exact ix_nm1))
  | (((with_reducible refine let_atI ?_ ?_) <;> walk_at "SD.Q04j"))
  | ((fail_if_success (with_reducible apply may_pop)); exact rfl)
  | (exact store_om rfl rfl)
  | (exact store_oo rfl rfl)
  | walk_at "SD.Q04j")
local macro_rules | `(tactic| walk_at "EV1.Q04j") => `(tactic| (first
  | (apply_rules (transparency := .reducible) (maxDepth := 500) only [u_thn, u_thnR, u_turn, u_turnR, u_finN, u_finR, u_inx, u_seq, u_ifS, u_skip, u_asgF, u_asg, u_asgT, u_idx, u_listR, u_ssI, u_ss, u_drop, u_ret, u_retN, u_retT, u_par, u_setIx, u_for, u_break, u_cont, u_c, u_newT, u_dic0, u_repL, u_m1, u_m2, u_nil, u_cons, u_mB, u_tup, u_lst, u_test, u_tru, u_yes, u_andT, u_orT, u_notT, u_and, u_or, u_not, u_if, u_chain, u_noP, u_P, u_sl, u_meth, u_isi, u_isi2, u_call, u_callK, u_iter, u_enum, u_range1, u_range2, sp_tt, sp_ff, Exists.intro])
  | ((with_reducible refine u_mayVar ?_); first | (refine u_var rfl ?_) | (refine u_varO rfl ?_))
  | ((with_reducible refine u_mayAug ?_); (refine u_aug (by first | exact rfl | (walk_at "CLEAN.Q04j"; exact rfl)) ?_))
  | ((with_reducible refine u_mayWG ?_); first | (refine u_g (by first | (walk_at "CLEAN.Q04j"; exact rfl) | (walk_at "CLEAN.Q04j"; done) | exact store_om rfl rfl | exact store_oo rfl rfl) ?_) | (refine u_gs (by first | (walk_at "CLEAN.Q04j"; exact rfl) | (walk_at "CLEAN.Q04j"; done)) ?_))
  | ((with_reducible refine sp_dt ?_ ?_); focus (first | assumption | omega))
  | ((with_reducible refine sp_df ?_ ?_); focus (first | assumption | omega))
  | ((with_reducible refine sp_et ?_ ?_); focus (first | assumption | omega))
  | ((with_reducible refine sp_ndt ?_ ?_); focus (first | assumption | omega))
  | ((with_reducible refine sp_ndf ?_ ?_); focus (first | assumption | omega))
  | ((with_reducible refine sp_ef ?_ ?_); focus (first | assumption | omega))
  | (with_reducible refine sp_t (by assumption) ?_)
  | (with_reducible refine sp_f (by assumption) ?_)
  | (with_reducible refine sp_nt (by first | assumption | rfl) ?_)
  | (with_reducible refine sp_nf (by first | assumption | rfl) ?_)
  | ((with_reducible refine sp_naT ?_ ?_); focus (exact rfl))
  | ((with_reducible refine sp_naF ?_ ?_); focus (exact rfl))
  | ((with_reducible refine sp_aT ?_ ?_); focus (exact rfl))
  | ((with_reducible refine sp_aF ?_ ?_); focus (exact rfl))
  | ((with_reducible refine sp_oaT ?_ ?_); focus (exact rfl))
  | ((with_reducible refine sp_oaF ?_ ?_); focus (exact rfl))
  | (with_reducible refine sp_d (fun hb => ?_) (fun hb => ?_))
  | (with_reducible refine sp_nd (fun hb => ?_) (fun hb => ?_))
  | (with_reducible refine sp_e (fun hb => ?_) (fun hb => ?_))
  | (with_reducible refine sp_ne (fun hb => ?_) (fun hb => ?_))
  | (with_reducible refine sp_xf (fun hb => ?_) (fun hb => ?_))
  | (with_reducible refine sp_xt (fun hb => ?_) (fun hb => ?_))
  | (with_reducible refine sp_b (fun hb => ?_) (fun hb => ?_))
  | ((with_reducible refine u_mayWF ?_); (try (first | (with_reducible refine u_svs1 ?_) | (with_reducible refine u_svs2 ?_) | (with_reducible refine u_svs3 ?_) | (with_reducible refine u_svs4 ?_) | (with_reducible refine u_svs5 ?_) | (with_reducible refine u_svs6 ?_) | (with_reducible refine u_svs7 ?_) | (with_reducible refine u_svs8 ?_))); (first | ((with_reducible refine w_draw (by assumption) ?_ ?_ ?_ ?_); (walk_at "SD.Q04j"); (walk_at "SD.Q04j"); (walk_at "SD.Q04j"); intro r a1 c1 h1 h2 h3; try simp only [List.length_map, List.length_append, List.length_cons, List.length_nil] at h3) | fail))
  | ((with_reducible refine And.intro ?_ ?_); focus (first | (walk_at "CLEAN.Q04j"; walk_at "OP.Q04j"; done) | (walk_at "CLEAN.Q04j"; done) | (walk_at "OP.Q04j"; done)))
  | fail))
local macro_rules | `(tactic| walk_at "EV.Q04j") => `(tactic| repeat' (first | walk_at "EV1.Q04j" | fail))
local macro_rules | `(tactic| walk_at "CE.Q04j") => `(tactic| try (dsimp only [sset, wipeE, restE, List.map, List.cons_append, List.nil_append, List.append_nil, List.replicate]))
theorem w_tail {a b c : Int} {m : Nat} {r : Int} {Q : Rs → Prop} (hm : m ≤ 170) (h0 : 0 ≤ r) (h4 : r < 4) (q : WS vhU (e7 a b c m (flS r m) r) Q) : WS vhT (e7 a b c m ((List.range m).map nmK) r) Q := by
  rw [vhT_is]
  unfold e7 at q ⊢
  rcases (by omega : r = 0 ∨ r = 1 ∨ r = 2 ∨ r = 3) with rfl | rfl | rfl | rfl
  · walk_at "EV.Q04j"
    refine u_filtW (fun i => PyData.str (nmK i)) (List.range m) (fun _ => true) (fun k => .str (nmZ k)) ?_
    walk_at "EV.Q04j"
    refine ⟨by rw [List.map_map]; rfl, fun k hk => by walk_at "EV.Q04j"; rfl, by simp; omega, ?_⟩
    rw [map_nm]
    walk_at "EV.Q04j"
    exact q
  · walk_at "EV.Q04j"
    refine u_filtW (fun i => PyData.str (nmK i)) (List.range m) (fun _ => true) (fun k => .str (nmR k)) ?_
    walk_at "EV.Q04j"
    refine ⟨by rw [List.map_map]; rfl, fun k hk => by walk_at "EV.Q04j"; rfl, by simp; omega, ?_⟩
    rw [map_nm]
    walk_at "EV.Q04j"
    exact q
  · walk_at "EV.Q04j"
    refine u_filtW (fun i => PyData.str (nmK i)) (List.range m) (fun _ => true) (fun k => .str (nmQ k)) ?_
    walk_at "EV.Q04j"
    refine ⟨by rw [List.map_map]; rfl, fun k hk => by walk_at "EV.Q04j"; rfl, by simp; omega, ?_⟩
    rw [map_nm]
    walk_at "EV.Q04j"
    rw [words_is]
    exact q
  · walk_at "EV.Q04j"
    exact q
theorem w_vehicles {n : Nat} {a b c : Int} {m : Nat} {Q : PV → List (Option Ob) → Prop} (h : Sc n a b c) (hn : n ≤ 1000000) (hm : m ≤ 170) (q : ∀ (got : List Str) (a' c' : Int), got.length = m → got.Nodup → (∀ x ∈ got, carB x = true ∧ lvS x = true) → Sc (n + 200) a' b c' → Q (.new (.lst (got.map .str))) [some (scO a' b c'), none]) : WF fn__law_vehicles [.own true (scO a b c), .d (.int (m : Nat))] Q := by
  refine u_fn rfl ?_
  rw [vh_is]
  walk_at "CLEAN.Q04j"
  walk_at "EV.Q04j"
  refine u_filtW (fun i => PyData.int (i : Nat)) (List.range m) (fun _ => true) (fun k => .str (nmK k)) ?_
  walk_at "EV.Q04j"
  refine ⟨by rw [← rangeD_nat]; simp, ?_, by simp; omega, ?_⟩
  · intro k hk
    have hk2 : k < m := by simpa using hk
    have e := two_is k
    walk_at "EV.Q04j"
    rfl
  · rw [map_nm]
    walk_at "EV.Q04j"
    rename_i r a1 c1 k1 k2 k3
    refine w_tail hm k2 k3 ?_
    obtain ⟨f1, f2⟩ := flB_is r k2 k3
    have fl := fl_len r m hm
    have ft := fl_take r m hm
    generalize flS r m = zs at fl ft
    have z1 : zs.Nodup := by rw [ft]; exact (List.take_sublist m _).nodup f1
    have z2 : ∀ x ∈ zs, carB x = true ∧ lvS x = true := fun x hx => f2 x (by rw [ft] at hx; exact List.mem_of_mem_take hx)
    unfold vhU e7
    walk_at "EV.Q04j"
    refine w_mixed k1 (by omega) (by omega) fun got a2 c2 hp hs => ?_
    walk_at "EV.Q04j"
    refine q got a2 c2 (by rw [hp.length_eq, fl]) (hp.nodup_iff.mpr z1) (fun x hx => z2 x (hp.mem_iff.mp hx)) (hs.mono (by omega))
end Ol
set_option Elab.async false
set_option linter.all false
set_option maxRecDepth 100000
set_option maxHeartbeats 4000000
namespace Ol
open PySem PySem.Spec PyProof.Rows L2
theorem small_snoc {n : Int} {es : List Ev} {x : Ev} (h : ∀ d r, es = d ++ r → endN n d ≤ 40 ∧ 0 ≤ endN n d) (h1 : endN n (es ++ [x]) ≤ 40 ∧ 0 ≤ endN n (es ++ [x])) : ∀ d r, es ++ [x] = d ++ r → endN n d ≤ 40 ∧ 0 ≤ endN n d := by
  intro d r he
  rcases List.eq_nil_or_concat r with h2 | ⟨r', y, h2⟩
  · subst h2
    rw [List.append_nil] at he
    subst he
    exact h1
  · subst h2
    rw [List.concat_eq_append, ← List.append_assoc] at he
    exact h d r' (List.append_inj' he rfl).1
theorem arr_snoc (es : List Ev) (x : Ev) : arr (es ++ [x]) = arr es ++ x.toList := by
  cases x <;> simp [arr]
theorem arr_len (es : List Ev) : (arr es).length ≤ es.length := List.length_filterMap_le _ _
theorem room_snoc {n : Int} {es : List Ev} {x : Ev} (h : ∀ d r, es = d ++ none :: r → 0 < endN n d) (hx : x = none → 0 < endN n es) : ∀ d r, es ++ [x] = d ++ none :: r → 0 < endN n d := by
  intro d r he
  rcases List.eq_nil_or_concat r with h1 | ⟨r', y, h1⟩
  · subst h1
    have := List.append_inj' he rfl
    obtain ⟨rfl, h2⟩ := this
    exact hx (by simpa using h2)
  · subst h1
    rw [List.concat_eq_append] at he
    have e2 : es ++ [x] = (d ++ none :: r') ++ [y] := by rw [he]; simp
    have := List.append_inj' e2 rfl
    exact h d r' this.1
/-- a log as the law draws it -/
structure Hap (p : Nat) (sp : List Str) (most : Nat) (es : List Ev) : Prop where
  fr : ∃ fr, sp = arr es ++ fr
  room : ∀ d r, es = d ++ none :: r → 0 < endN p d
  small : ∀ d r, es = d ++ r → endN p d ≤ 40 ∧ 0 ≤ endN p d
  el : es.length ≤ most
structure HpI (n p most : Nat) (sp : List Str) (lean b : Int) (k : Nat) (e : Env) : Prop where
  ex : ∃ (es : List Ev) (fr : List Str) (a c : Int) (v7 v8 : Option D), e = [some (.own true (scO a b c)), some (.d (.int (endN p es))), some (.d (.list (sp.map .str))), some (.d (.int (most : Nat))), some (.own false (.lst (es.map ev))), some (.own false (.lst (fr.map .str))), some (.d (.int lean)), v7.map SV.d, v8.map SV.d] ∧
    sp = arr es ++ fr ∧ (∀ d r, es = d ++ none :: r → 0 < endN p d) ∧ (∀ d r, es = d ++ r → endN p d ≤ 40 ∧ 0 ≤ endN p d) ∧ es.length ≤ k ∧ Sc (n + k) a b c
theorem evI {y : Str} : PyData.tuple [.str "in", .str y] = ev (some y) := rfl
theorem evO : PyData.tuple [.str "out"] = ev none := rfl
local macro_rules | `(tactic| walk_at "SD.Q04k") => `(tactic| first
  | omega
  | (simp only [List.length_map, List.length_append, List.length_cons, List.length_nil, List.length_drop, List.length_take, List.length_dropLast, List.length_singleton, List.length_eraseIdx, List.length_zipIdx, List.length_range, List.length_range', List.length_reverse, List.length_set]; omega)
  | (with_reducible assumption))
local macro_rules | `(tactic| walk_at "CLEAN.Q04k") => `(tactic| dsimp only [rd, rds, sget, sset, fz, fzs, fzP, flt, store, stores, svOf, comps, mNames, back, backs, Ob.rv, Ob.kind, pars, par, fzIO, putOuts, outsOf, okSlots, pick, wipeE, restE, frT, List.map, List.append_nil, List.nil_append, List.cons_append, List.replicate, Option.bind_some, bD, iD, if_true, reduceIte, List.getElem?_cons_zero, List.getElem?_cons_succ])
local macro_rules | `(tactic| walk_at "CL.Q04k") => `(tactic| try (dsimp only [rd, rds, sget, sset, fz, fzs, fzP, flt, store, stores, svOf, comps, mNames, back, backs, Ob.rv, Ob.kind, pars, par, fzIO, putOuts, outsOf, okSlots, pick, wipeE, restE, frT, Option.map_some, List.map, List.append_nil, List.nil_append, List.cons_append, List.replicate, Option.bind_some, bD, iD, if_true, reduceIte, List.getElem?_cons_zero, List.getElem?_cons_succ]))
local macro_rules | `(tactic| walk_at "OP.Q04k") => `(tactic| first
  | (with_reducible assumption)
  | (apply_rules (transparency := .reducible) (maxDepth := 1) only [in_tup, in_lst, in_set, in_dic, ix_list0, ix_list1, ix_tup0, ix_tup1, o_eqI, o_neI, ix_evI, ix_evC, ix_evO, o_eqII, o_eqOI, o_eqIO, o_eqOO, o_neNilI, o_eqNilI, o_rev, o_isB, strsOf_strs])
  | ((with_reducible refine o_addS ?_); walk_at "SD.Q04k")
  | ((with_reducible refine o_addT ?_); walk_at "SD.Q04k")
  | ((with_reducible refine o_addL ?_); walk_at "SD.Q04k")
  | ((with_reducible refine f_append ?_); walk_at "SD.Q04k")
  | (with_reducible exact o_txIn)
  | ((with_reducible refine o_reprJ ?_); (with_reducible assumption))
  | ((with_reducible refine o_div ?_ ?_) <;> walk_at "SD.Q04k")
  | ((with_reducible refine o_mod ?_); walk_at "SD.Q04k")
  | (with_reducible refine o_eqS (by first | assumption | exact ok_in | exact ok_out) (by first | assumption | exact ok_in | exact ok_out))
  | ((with_reducible refine o_ixS ?_ ?_) <;> walk_at "SD.Q04k")
  | ((with_reducible refine o_ixT ?_ ?_) <;> walk_at "SD.Q04k")
  | ((with_reducible refine f_setS ?_ ?_) <;> walk_at "SD.Q04k")
  | ((with_reducible refine o_minL ?_); walk_at "SD.Q04k")
  | ((with_reducible refine o_neNil ?_); (with_reducible assumption))
  | ((with_reducible refine o_eqNil ?_); (with_reducible assumption))
  | ((with_reducible refine f_popAt ?_ ?_ ?_) <;> walk_at "SD.Q04k")
  | ((fail_if_success (with_reducible apply may_pop)); exact rfl)
  | (exact store_om rfl rfl)
  | (exact store_oo rfl rfl)
  | walk_at "SD.Q04k")
local macro_rules | `(tactic| walk_at "EV1.Q04k") => `(tactic| (first
  | (apply_rules (transparency := .reducible) (maxDepth := 500) only [u_thn, u_thnR, u_turn, u_turnR, u_finN, u_finR, u_inx, u_seq, u_ifS, u_skip, u_asgF, u_asg, u_asgT, u_idx, u_listR, u_ssI, u_ss, u_drop, u_ret, u_retN, u_retT, u_par, u_setIx, u_for, u_break, u_cont, u_c, u_newT, u_dic0, u_repL, u_m1, u_m2, u_nil, u_cons, u_mB, u_tup, u_lst, u_test, u_tru, u_yes, u_andT, u_orT, u_notT, u_and, u_or, u_not, u_if, u_chain, u_noP, u_P, u_sl, u_meth, u_isi, u_isi2, u_call, u_callK, u_iter, u_enum, u_range1, u_range2, sp_tt, sp_ff, Exists.intro])
  | ((with_reducible refine u_mayVar ?_); first | (refine u_var rfl ?_) | (refine u_varO rfl ?_))
  | ((with_reducible refine u_mayAug ?_); (refine u_aug (by first | exact rfl | (walk_at "CLEAN.Q04k"; exact rfl)) ?_))
  | ((with_reducible refine u_mayWG ?_); first | (refine u_g (by first | (walk_at "CLEAN.Q04k"; exact rfl) | (walk_at "CLEAN.Q04k"; done) | exact store_om rfl rfl | exact store_oo rfl rfl) ?_) | (refine u_gs (by first | (walk_at "CLEAN.Q04k"; exact rfl) | (walk_at "CLEAN.Q04k"; done)) ?_))
  | ((with_reducible refine sp_dt ?_ ?_); focus (first | assumption | omega))
  | ((with_reducible refine sp_df ?_ ?_); focus (first | assumption | omega))
  | ((with_reducible refine sp_et ?_ ?_); focus (first | assumption | omega))
  | ((with_reducible refine sp_ndt ?_ ?_); focus (first | assumption | omega))
  | ((with_reducible refine sp_ndf ?_ ?_); focus (first | assumption | omega))
  | ((with_reducible refine sp_ef ?_ ?_); focus (first | assumption | omega))
  | (with_reducible refine sp_t (by assumption) ?_)
  | (with_reducible refine sp_f (by assumption) ?_)
  | (with_reducible refine sp_nt (by first | assumption | rfl) ?_)
  | (with_reducible refine sp_nf (by first | assumption | rfl) ?_)
  | ((with_reducible refine sp_naT ?_ ?_); focus (exact rfl))
  | ((with_reducible refine sp_naF ?_ ?_); focus (exact rfl))
  | ((with_reducible refine sp_aT ?_ ?_); focus (exact rfl))
  | ((with_reducible refine sp_aF ?_ ?_); focus (exact rfl))
  | ((with_reducible refine sp_oaT ?_ ?_); focus (exact rfl))
  | ((with_reducible refine sp_oaF ?_ ?_); focus (exact rfl))
  | (with_reducible refine sp_d (fun hb => ?_) (fun hb => ?_))
  | (with_reducible refine sp_nd (fun hb => ?_) (fun hb => ?_))
  | (with_reducible refine sp_e (fun hb => ?_) (fun hb => ?_))
  | (with_reducible refine sp_ne (fun hb => ?_) (fun hb => ?_))
  | (with_reducible refine sp_xf (fun hb => ?_) (fun hb => ?_))
  | (with_reducible refine sp_xt (fun hb => ?_) (fun hb => ?_))
  | (with_reducible refine sp_b (fun hb => ?_) (fun hb => ?_))
  | ((with_reducible refine u_mayWF ?_); (try (first | (with_reducible refine u_svs1 ?_) | (with_reducible refine u_svs2 ?_) | (with_reducible refine u_svs3 ?_) | (with_reducible refine u_svs4 ?_) | (with_reducible refine u_svs5 ?_) | (with_reducible refine u_svs6 ?_) | (with_reducible refine u_svs7 ?_) | (with_reducible refine u_svs8 ?_))); (first | ((with_reducible refine w_draw (by assumption) ?_ ?_ ?_ ?_); (walk_at "SD.Q04k"); (walk_at "SD.Q04k"); (walk_at "SD.Q04k"); intro r a1 c1 h1 h2 h3; try simp only [List.length_map, List.length_append, List.length_cons, List.length_nil] at h3) | fail))
  | ((with_reducible refine And.intro ?_ ?_); focus (first | (walk_at "CLEAN.Q04k"; walk_at "OP.Q04k"; done) | (walk_at "CLEAN.Q04k"; done) | (walk_at "OP.Q04k"; done)))
  | fail))
local macro_rules | `(tactic| walk_at "EV.Q04k") => `(tactic| repeat' (first | walk_at "EV1.Q04k" | fail))
local macro_rules | `(tactic| walk_at "CE.Q04k") => `(tactic| try (dsimp only [sset, wipeE, restE, List.map, List.cons_append, List.nil_append, List.append_nil, List.replicate]))
theorem w_happened {n : Nat} {a b c : Int} {p most : Nat} {sp : List Str} {Q : PV → List (Option Ob) → Prop} (h : Sc n a b c) (hn : n ≤ 1000000) (hp : p ≤ 40) (hsl : sp.length ≤ 1000) (hm : most ≤ 1000) (hok : ∀ x ∈ sp, PyData.strOk x = true) (q : ∀ es a' c', Hap p sp most es → Sc (n + 1100) a' b c' → Q (.new (.lst (es.map ev))) [some (scO a' b c'), none, none, none]) : WF fn__law_happened [.own true (scO a b c), .d (.int (p : Nat)), .d (.list (sp.map .str)), .d (.int (most : Nat))] Q := by
  refine u_fn rfl ?_
  unfold m__law_happened
  walk_at "CLEAN.Q04k"
  walk_at "EV.Q04k"
  rename_i lean a1 c1 z1 z2 z3 cnt a2 c2 y1 y2 y3
  refine u_forI (HpI (n + 1 + 1) p most sp (2 + lean) b) _ ?_ ?_ ?_
  · exact ⟨[], sp, a2, c2, none, none, rfl, by simp [arr], by simp, fun d r he => by (obtain ⟨rfl, rfl⟩ := List.append_eq_nil_iff.mp he.symm; simp [endN]; omega), by simp, y1⟩
  · intro i x e hx hi
    obtain ⟨es, fr, a, c, v7, v8, rfl, q1, q2, q3, q4, q5⟩ := hi
    obtain ⟨hil, rfl⟩ : i < cnt.toNat ∧ x = .int (i : Nat) := by
      unfold rangeD at hx
      rw [List.getElem?_map] at hx
      have h1 : i < cnt.toNat := by
        by_cases h : i < cnt.toNat
        · exact h
        · rw [List.getElem?_eq_none (by simpa using h)] at hx; cases hx
      rw [List.getElem?_range h1] at hx
      exact ⟨h1, by simpa using hx.symm⟩
    have hfl := congrArg List.length q1
    rw [List.length_append] at hfl
    have hok' : ∀ x ∈ fr, PyData.strOk x = true := fun x hx => hok x (by rw [q1]; exact List.mem_append_right _ hx)
    have hsm := q3 es [] (by simp)
    have stepA : ∀ (a1 c1 : Int) (v : D), Sc (n + 1 + 1 + i + 1) a1 b c1 → ¬ fr.length = 0 → endN p es < 40 → HpI (n + 1 + 1) p most sp (2 + lean) b (i + 1) [some (.own true (scO a1 b c1)), some (.d (.int (endN p es + 1))), some (.d (.list (sp.map .str))), some (.d (.int (most : Nat))), some (.own false (.lst (es.map ev ++ [PyData.tuple [.str "in", .str (gt fr 0)]]))), some (.own false (.lst ((dropAt fr 0).map .str))), some (.d (.int (2 + lean))), some (.d (.int (i : Nat))), some (.d v)] := fun a1 c1 v hs hf hl => by
      cases fr with
      | nil => exact absurd rfl hf
      | cons y fr =>
        refine ⟨es ++ [some y], fr, a1, c1, some (.int (i : Nat)), some v, ?_, ?_, room_snoc q2 (fun z => by cases z), small_snoc q3 ?_, by simp; omega, hs⟩
        · rw [endN_snoc, List.map_append]; rfl
        · rw [arr_snoc, q1]; simp
        · rw [endN_snoc]
          simp only [dl]
          omega
    have stepD : ∀ (a1 c1 : Int) (v : D), Sc (n + 1 + 1 + i + 1) a1 b c1 → 0 < endN p es → HpI (n + 1 + 1) p most sp (2 + lean) b (i + 1) [some (.own true (scO a1 b c1)), some (.d (.int (endN p es - 1))), some (.d (.list (sp.map .str))), some (.d (.int (most : Nat))), some (.own false (.lst (es.map ev ++ [PyData.tuple [.str "out"]]))), some (.own false (.lst (fr.map .str))), some (.d (.int (2 + lean))), some (.d (.int (i : Nat))), some (.d v)] := fun a1 c1 v hs hl => by
      refine ⟨es ++ [none], fr, a1, c1, some (.int (i : Nat)), some v, ?_, ?_, room_snoc q2 (fun _ => hl), small_snoc q3 ?_, by simp; omega, hs⟩
      · rw [endN_snoc, List.map_append]; rfl
      · rw [arr_snoc, q1]; simp
      · rw [endN_snoc]
        simp only [dl]
        omega
    have stepS : ∀ (a1 c1 : Int) (v : D), Sc (n + 1 + 1 + i + 1) a1 b c1 → HpI (n + 1 + 1) p most sp (2 + lean) b (i + 1) [some (.own true (scO a1 b c1)), some (.d (.int (endN p es))), some (.d (.list (sp.map .str))), some (.d (.int (most : Nat))), some (.own false (.lst (es.map ev))), some (.own false (.lst (fr.map .str))), some (.d (.int (2 + lean))), some (.d (.int (i : Nat))), some (.d v)] := fun a1 c1 v hs => ⟨es, fr, a1, c1, some (.int (i : Nat)), some v, rfl, q1, q2, q3, by omega, hs⟩
    walk_at "EV.Q04k"
    all_goals first
      | exact stepA _ _ _ (by assumption) (by assumption) (by assumption)
      | exact stepD _ _ _ (by assumption) (by omega)
      | exact stepS _ _ _ (by assumption)
  · rintro e ⟨es, fr, a, c, v7, v8, rfl, q1, q2, q3, q4, q5⟩
    walk_at "EV.Q04k"
    have lr : (rangeD 0 cnt.toNat).length = cnt.toNat := by simp [rangeD]
    rw [lr] at q4 q5
    exact q es a c ⟨⟨fr, q1⟩, q2, q3, by omega⟩ (q5.mono (by omega))
end Ol
set_option Elab.async false
set_option linter.all false
set_option maxRecDepth 100000
set_option maxHeartbeats 4000000
/-! own: the law's stages -/
namespace Ol
open PySem PySem.Spec PyProof.Rows L2
def k4S1 : MS := (mAsgF 4 (mCall [true, false] fn__law_vehicles (mCons (mVar 2) (mCons (m2 oAdd (mC (.int 1)) (mCall [true, false] fn__law_draw (mCons (mVar 2) (mCons (m2 oIx (mLst (mCons (mC (.int 6)) (mCons (mC (.int 30)) (mCons (mC (.int 160)) mNil)))) (mCall [true, false] fn__law_draw (mCons (mVar 2) (mCons (mC (.int 3)) mNil)))) mNil)))) mNil))))
def k4S2 : MS := (mAsgF 5 (mB oTuple (mCons (mSl (mVar 4) mNoP (mP (mB oMin (mCons (mC (.int 40)) (mCons (mCall [true, false] fn__law_draw (mCons (mVar 2) (mCons (m2 oAdd (mB oLen (mCons (mVar 4) mNil)) (mC (.int 1))) mNil))) mNil))))) mNil)))
def k4S3 : MS := (mAsg (store 6) (mCall [true, false, false, false] fn__law_happened (mCons (mVar 2) (mCons (mB oLen (mCons (mVar 5) mNil)) (mCons (mSl (mVar 4) (mP (mB oLen (mCons (mVar 5) mNil))) mNoP) (mCons (m2 oIx (mLst (mCons (mC (.int 8)) (mCons (mC (.int 120)) mNil))) (mCall [true, false] fn__law_draw (mCons (mVar 2) (mCons (mC (.int 2)) mNil)))) mNil))))))
def k4S4 : MS := (mAsg (store 7) (mCompO [("event", 9)] 6 (store 9) mYes (m2 oIx (mC (.str "LR")) (mCall [true, false] fn__law_draw (mCons (mVar 2) (mCons (mC (.int 2)) mNil))))))
def k4S5 : MS := (mIfS (mNotT (mTru (mCall [false, false, false] fn__law_right (mCons (mVar 5) (mCons (mVar 6) (mCons (mVar 7) mNil)))))) (mRet (mC (.bool false))) mSkip)
def k4S6 : MS := (mAsgF 8 (mCall [true, false] fn__law_draw (mCons (mVar 2) (mCons (m2 oAdd (mB oLen (mCons (mVar 6) mNil)) (mC (.int 1))) mNil))))
def k4S7 : MS := (mCut 6 (mVar 8))
def k4S8 : MS := (mCut 7 (mVar 8))
def k4S9 : MS := (mIfS (mNotT (mTru (mCall [false, false, false] fn__law_right (mCons (mVar 5) (mCons (mVar 6) (mCons (mVar 7) mNil)))))) (mRet (mC (.bool false))) mSkip)
def k4B : MS := mSeq k4S1 (mSeq k4S2 (mSeq k4S3 (mSeq k4S4 (mSeq k4S5 (mSeq k4S6 (mSeq k4S7 (mSeq k4S8 (k4S9))))))))
def k4I : MS := mFor (store 3) (mRange1 (mCons (mC (.int 3)) mNil)) k4B
def k4O : MS := mSeq (mAsg (store 2) (mCall [false, false] fn__law_source (mCons (mVar 0) (mCons (mVar 1) mNil)))) k4I
theorem lw_is : m_law = mSeq (mFor (store 1) (mRange1 (mCons (mB oMax (mCons (mC (.int 1)) (mCons (mB oMin (mCons (mC (.int 5)) (mCons (mB oLen (mCons (mVar 0) mNil)) mNil))) mNil))) mNil)) k4O) (mRet (mC (.bool true))) := rfl
theorem szs_mem {n : Int} {es : List Ev} {i : Int} (h : i ∈ szs n es) : ∃ d r, es = d ++ r ∧ i = endN n d := by
  obtain ⟨k, hk⟩ := List.mem_iff_getElem?.mp h
  have hl : k < (szs n es).length := (List.getElem?_eq_some_iff.mp hk).1
  rw [szs_len] at hl
  rw [szs_get es n k (by omega)] at hk
  exact ⟨es.take k, es.drop k, (List.take_append_drop _ _).symm, (Option.some.inj hk).symm⟩
theorem LH.of {l : List Str} {es : List Ev} (lg : LG l es) (sm : ∀ d r, es = d ++ r → endN l.length d ≤ 40 ∧ 0 ≤ endN l.length d) (ll : l.length ≤ 40) (el : es.length ≤ 120) : LH l es :=
  ⟨lg, fun i hi => by
    obtain ⟨d, r, h1, h2⟩ := szs_mem hi
    have := sm d r h1
    omega, ll, el⟩
theorem evs_zip {es : List Ev} {bs : List Bool} (h : es.length = bs.length) : evs (es.zip bs) = es := by
  unfold evs
  exact List.map_fst_zip (by omega)
theorem snd_zip {es : List Ev} {bs : List Bool} (h : es.length = bs.length) : (es.zip bs).map (·.2) = bs := List.map_snd_zip (by omega)
theorem w_rightC {l : List Str} {es : List Ev} {bs : List Bool} {Q : PV → List (Option Ob) → Prop} (hb : es.length = bs.length) (h : LH l es) (q : Q (.d (.bool true)) [none, none, none]) : WF fn__law_right [.d (sD l), .d (lg es), .d (sdL bs)] Q := by
  have z := w_right (xs := es.zip bs) (l := l) (Q := Q) (by rw [evs_zip hb]; exact h) q
  rw [evs_zip hb, snd_zip hb] at z
  exact z
theorem o_LR {r : Int} (h0 : 0 ≤ r) (h1 : r < 2) : oIx (.d (.str "LR")) (.d (.int r)) = some (.d (.str (sdS (decide (r = 0))))) := by
  obtain rfl | rfl : r = 0 ∨ r = 1 := by omega
  · kernel_rfl
  · kernel_rfl
theorem o_LR0 : oIx (.d (.str "LR")) (.d (.int 0)) = some (.d (.str (sdS true))) := o_LR (r := 0) (by omega) (by omega)
theorem o_LR1 : oIx (.d (.str "LR")) (.d (.int 1)) = some (.d (.str (sdS false))) := o_LR (r := 1) (by omega) (by omega)
theorem u_cut {i : Nat} {ix : ME} {env : Env} {QS : Rs → Prop} (h : ∃ b0 o0, sget env i = some (.own b0 o0) ∧ W ix env fun k e => ∃ c b o o', k = .d (.int c) ∧ sget e i = some (.own b o) ∧ cutO o c = some o' ∧ QS (.nx (sset e i (some (.own b o'))))) : WS (mCut i ix) env QS := by
  obtain ⟨b0, o0, h0, k, e, h1, c, b, o, o', rfl, h2, h3, q⟩ := h
  exact ⟨_, by simp only [mCut, h0, h1, h2, h3, cutI, Option.bind_some], q⟩
theorem u_compO {own : List (Str × Nat)} {j : Nat} {gg : MG} {t : MT} {elt : ME} {env : Env} {Q : PV → Env → Prop} {α : Type} (k : α → D) (l : List α) (I : List α → List D → Env → Prop) (hs : ∀ d acc e, I d acc e → ∃ b, sget e j = some (.own b (.lst (l.map k)))) (he : ∃ b, sget env j = some (.own b (.lst (l.map k)))) (h0 : I [] [] (wipeE env (own.map (·.2))))
    (h1 : ∀ d x r acc e, l = d ++ x :: r → I d acc e → WG gg (.d (k x)) e fun e1 => W t e1 fun b e2 => (b = true → W elt e2 fun y e3 => ∃ dd, fz y = some dd ∧ acc.length < 100000 ∧ I (d ++ [x]) (acc ++ [dd]) (wipeE e3 (own.map (·.2)))) ∧ (b = false → I (d ++ [x]) acc (wipeE e2 (own.map (·.2)))))
    (h2 : ∀ acc e', I l acc e' → Q (.new (.lst acc)) (restE env e' (own.map (·.2)))) : W (mCompO own j gg t elt) env Q := by
  have go : ∀ (r d : List α) (acc : List D) (e : Env), l = d ++ r → I d acc e → ∃ acc' e', compO (own.map (·.2)) j gg t elt (r.length + 1) d.length e acc = some (acc', e') ∧ I l acc' e' := by
    intro r
    induction r with
    | nil =>
      intro d acc e hl hi
      obtain ⟨b, hb⟩ := hs d acc e hi
      rw [List.append_nil] at hl
      subst hl
      refine ⟨acc, e, ?_, hi⟩
      unfold compO
      simp only [hb]
      rw [List.getElem?_eq_none (by simp)]
    | cons x r ih =>
      intro d acc e hl hi
      obtain ⟨b, hb⟩ := hs d acc e hi
      obtain ⟨e1, g1, k1, e2, g2, g3, g4⟩ := h1 d x r acc e hl hi
      have hx : (l.map k)[d.length]? = some (k x) := by rw [hl]; simp
      unfold compO
      simp only [hb, hx, g1, g2, Option.bind_some]
      cases k1 with
      | false =>
        obtain ⟨acc', e', h5, h6⟩ := ih (d ++ [x]) acc _ (by rw [hl]; simp) (g4 rfl)
        rw [List.length_append, List.length_singleton] at h5
        exact ⟨acc', e', by simp only [Bool.false_eq_true, if_false]; exact h5, h6⟩
      | true =>
        obtain ⟨y, e3, g5, dd, g6, g7, g8⟩ := g3 rfl
        obtain ⟨acc', e', h5, h6⟩ := ih (d ++ [x]) _ _ (by rw [hl]; simp) g8
        rw [List.length_append, List.length_singleton] at h5
        exact ⟨acc', e', by simp only [if_true, g5, g6, g7, Option.bind_some]; exact h5, h6⟩
  obtain ⟨b, hb⟩ := he
  obtain ⟨acc', e', h5, h6⟩ := go l [] [] _ rfl h0
  refine ⟨_, _, ?_, h2 acc' e' h6⟩
  unfold mCompO mCompP
  simp only [hb, List.length_map]
  rw [show ([] : List α).length = 0 from rfl] at h5
  simp only [h5, Option.bind_some]
abbrev E10 (x0 x1 x3 x4 x5 x6 x7 x8 : Option SV) (b a c : Int) : Env := [x0, x1, some (.own false (scO a b c)), x3, x4, x5, x6, x7, x8, none]
abbrev lO (es : List Ev) : Option SV := some (.own false (.lst (es.map ev)))
abbrev sO (bs : List Bool) : Option SV := some (.own false (.lst (bs.map fun b => .str (sdS b))))
theorem w_vehI {n : Nat} {a b c i : Int} {Q : PV → List (Option Ob) → Prop} (h : Sc n a b c) (hn : n ≤ 1000000) (h0 : 0 ≤ i) (hm : i ≤ 170) (q : ∀ (got : List Str) (a' c' : Int), (got.length : Int) = i → got.Nodup → (∀ x ∈ got, carB x = true ∧ lvS x = true) → Sc (n + 200) a' b c' → Q (.new (.lst (got.map .str))) [some (scO a' b c'), none]) : WF fn__law_vehicles [.own true (scO a b c), .d (.int i)] Q := by
  obtain ⟨m, rfl⟩ : ∃ m : Nat, i = m := ⟨i.toNat, by omega⟩
  exact w_vehicles h hn (by omega) fun got a' c' g1 g2 g3 g4 => q got a' c' (by rw [g1]) g2 g3 g4
structure S1 (x0 x1 x3 x5 x6 x7 x8 : Option SV) (n : Nat) (b : Int) (e : Env) : Prop where
  ex : ∃ (a c : Int) (fl : List Str), e = E10 x0 x1 x3 (some (.d (.list (fl.map .str)))) x5 x6 x7 x8 b a c ∧ Sc n a b c ∧ fl.length ≤ 170 ∧ fl.Nodup ∧ ∀ x ∈ fl, carB x = true ∧ lvS x = true
structure S2 (x0 x1 x3 x6 x7 x8 : Option SV) (fl : List Str) (n : Nat) (b : Int) (e : Env) : Prop where
  ex : ∃ (a c : Int) (l sp : List Str), e = E10 x0 x1 x3 (some (.d (.list (fl.map .str)))) (some (.d (sD l))) x6 x7 x8 b a c ∧ Sc n a b c ∧ fl = l ++ sp ∧ l.length ≤ 40
structure S3 (x0 x1 x3 x7 x8 : Option SV) (fl l : List Str) (n : Nat) (b : Int) (e : Env) : Prop where
  ex : ∃ (a c : Int) (es : List Ev) (fr : List Str), e = E10 x0 x1 x3 (some (.d (.list (fl.map .str)))) (some (.d (sD l))) (lO es) x7 x8 b a c ∧ Sc n a b c ∧ fl = l ++ arr es ++ fr ∧ Rm l es ∧ es.length ≤ 120 ∧ ∀ d r, es = d ++ r → endN l.length d ≤ 40 ∧ 0 ≤ endN l.length d
def lim3 (r : Int) : Int := if r = 0 then 6 else if r = 1 then 30 else 160
theorem lim3_b (r : Int) : 0 < lim3 r ∧ lim3 r ≤ 160 := by
  unfold lim3
  split
  · omega
  · split <;> omega
def lim2 (r : Int) : Nat := if r = 0 then 8 else 120
theorem lim2_b (r : Int) : lim2 r ≤ 120 := by
  unfold lim2
  split <;> omega
theorem ix160 {r : Int} (h0 : 0 ≤ r) (h1 : r < 3) : oIx (.d (.list [.int 6, .int 30, .int 160])) (.d (.int r)) = some (.d (.int (lim3 r))) := by
  obtain rfl | rfl | rfl : r = 0 ∨ r = 1 ∨ r = 2 := by omega
  · rfl
  · rfl
  · rfl
theorem ix120 {r : Int} (h0 : 0 ≤ r) (h1 : r < 2) : oIx (.d (.list [.int 8, .int 120])) (.d (.int r)) = some (.d (.int (lim2 r : Nat))) := by
  obtain rfl | rfl : r = 0 ∨ r = 1 := by omega
  · rfl
  · rfl
structure M4 (x0 x1 x3 x4 x5 x7 x8 : Option SV) (es : List Ev) (n : Nat) (b : Int) (k : Nat) (acc : List D) (e : Env) : Prop where
  ex : ∃ (a c : Int) (bs : List Bool), e = E10 x0 x1 x3 x4 x5 (lO es) x7 x8 b a c ∧ acc = bs.map (fun b => PyData.str (sdS b)) ∧ bs.length = k ∧ Sc (n + k) a b c
structure S4 (x0 x1 x3 x4 x5 x8 : Option SV) (es : List Ev) (n : Nat) (b : Int) (e : Env) : Prop where
  ex : ∃ (a c : Int) (bs : List Bool), e = E10 x0 x1 x3 x4 x5 (lO es) (sO bs) x8 b a c ∧ es.length = bs.length ∧ Sc n a b c
structure S6 (x0 x1 x3 x4 x5 x6 x7 : Option SV) (n : Nat) (m : Nat) (b : Int) (e : Env) : Prop where
  ex : ∃ (a c r : Int), e = E10 x0 x1 x3 x4 x5 x6 x7 (some (.d (.int r))) b a c ∧ Sc n a b c ∧ 0 ≤ r ∧ r ≤ m
local macro_rules | `(tactic| walk_at "SD.R01v") => `(tactic| first
  | omega
  | (simp only [List.length_map, List.length_append, List.length_cons, List.length_nil, List.length_drop, List.length_take, List.length_dropLast, List.length_singleton, List.length_eraseIdx, List.length_zipIdx, List.length_range, List.length_range', List.length_reverse, List.length_set]; omega)
  | (with_reducible assumption))
local macro_rules | `(tactic| walk_at "CLEAN.R01v") => `(tactic| dsimp only [rd, rds, sget, sset, fz, fzs, fzP, flt, store, stores, svOf, comps, mNames, back, backs, Ob.rv, Ob.kind, pars, par, fzIO, putOuts, outsOf, okSlots, pick, wipeE, restE, frT, List.map, List.append_nil, List.nil_append, List.cons_append, List.replicate, Option.bind_some, bD, iD, if_true, reduceIte, List.getElem?_cons_zero, List.getElem?_cons_succ])
local macro_rules | `(tactic| walk_at "CL.R01v") => `(tactic| try (dsimp only [rd, rds, sget, sset, fz, fzs, fzP, flt, store, stores, svOf, comps, mNames, back, backs, Ob.rv, Ob.kind, pars, par, fzIO, putOuts, outsOf, okSlots, pick, wipeE, restE, frT, Option.map_some, List.map, List.append_nil, List.nil_append, List.cons_append, List.replicate, Option.bind_some, bD, iD, if_true, reduceIte, List.getElem?_cons_zero, List.getElem?_cons_succ]))
local macro_rules | `(tactic| walk_at "OP.R01v") => `(tactic| first
  | (with_reducible assumption)
  | (apply_rules (transparency := .reducible) (maxDepth := 1) only [in_tup, in_lst, in_set, in_dic, ix_list0, ix_list1, ix_tup0, ix_tup1, o_eqI, o_neI, ix_evI, ix_evC, ix_evO, o_eqII, o_eqOI, o_eqIO, o_eqOO, o_neNilI, o_eqNilI, o_rev, o_isB, strsOf_strs])
  | ((with_reducible refine o_addS ?_); walk_at "SD.R01v")
  | ((with_reducible refine o_addT ?_); walk_at "SD.R01v")
  | ((with_reducible refine o_addL ?_); walk_at "SD.R01v")
  | ((with_reducible refine f_append ?_); walk_at "SD.R01v")
  | (with_reducible exact o_txIn)
  | ((with_reducible refine o_reprJ ?_); (with_reducible assumption))
  | ((with_reducible refine o_div ?_ ?_) <;> walk_at "SD.R01v")
  | ((with_reducible refine o_mod ?_); walk_at "SD.R01v")
  | (with_reducible refine o_eqS (by first | assumption | exact ok_in | exact ok_out) (by first | assumption | exact ok_in | exact ok_out))
  | ((with_reducible refine o_ixS ?_ ?_) <;> walk_at "SD.R01v")
  | ((with_reducible refine o_ixT ?_ ?_) <;> walk_at "SD.R01v")
  | ((with_reducible refine f_setS ?_ ?_) <;> walk_at "SD.R01v")
  | ((with_reducible refine o_minL ?_); walk_at "SD.R01v")
  | ((with_reducible refine o_neNil ?_); (with_reducible assumption))
  | ((with_reducible refine o_eqNil ?_); (with_reducible assumption))
  | ((with_reducible refine f_popAt ?_ ?_ ?_) <;> walk_at "SD.R01v")
  | (((with_reducible refine ix160 ?_ ?_) <;> assumption))
  | (((with_reducible refine ix120 ?_ ?_) <;> assumption))
  | (((with_reducible refine o_LR ?_ ?_) <;> assumption))
  | ((with_reducible exact o_LR0))
  | ((with_reducible exact o_LR1))
  | ((fail_if_success (with_reducible apply may_pop)); exact rfl)
  | (exact store_om rfl rfl)
  | (exact store_oo rfl rfl)
  | walk_at "SD.R01v")
local macro_rules | `(tactic| walk_at "EV1.R01v") => `(tactic| (first
  | (apply_rules (transparency := .reducible) (maxDepth := 500) only [u_thn, u_thnR, u_turn, u_turnR, u_finN, u_finR, u_inx, u_seq, u_ifS, u_skip, u_asgF, u_asg, u_asgT, u_idx, u_listR, u_ssI, u_ss, u_drop, u_ret, u_retN, u_retT, u_par, u_setIx, u_for, u_break, u_cont, u_c, u_newT, u_dic0, u_repL, u_m1, u_m2, u_nil, u_cons, u_mB, u_tup, u_lst, u_test, u_tru, u_yes, u_andT, u_orT, u_notT, u_and, u_or, u_not, u_if, u_chain, u_noP, u_P, u_sl, u_meth, u_isi, u_isi2, u_call, u_callK, u_iter, u_enum, u_range1, u_range2, sp_tt, sp_ff, Exists.intro])
  | ((with_reducible refine u_mayVar ?_); first | (refine u_var rfl ?_) | (refine u_varO rfl ?_))
  | ((with_reducible refine u_mayAug ?_); (refine u_aug (by first | exact rfl | (walk_at "CLEAN.R01v"; exact rfl)) ?_))
  | ((with_reducible refine u_mayWG ?_); first | (refine u_g (by first | (walk_at "CLEAN.R01v"; exact rfl) | (walk_at "CLEAN.R01v"; done) | exact store_om rfl rfl | exact store_oo rfl rfl) ?_) | (refine u_gs (by first | (walk_at "CLEAN.R01v"; exact rfl) | (walk_at "CLEAN.R01v"; done)) ?_))
  | ((with_reducible refine sp_dt ?_ ?_); focus (first | assumption | omega))
  | ((with_reducible refine sp_df ?_ ?_); focus (first | assumption | omega))
  | ((with_reducible refine sp_et ?_ ?_); focus (first | assumption | omega))
  | ((with_reducible refine sp_ndt ?_ ?_); focus (first | assumption | omega))
  | ((with_reducible refine sp_ndf ?_ ?_); focus (first | assumption | omega))
  | ((with_reducible refine sp_ef ?_ ?_); focus (first | assumption | omega))
  | (with_reducible refine sp_t (by assumption) ?_)
  | (with_reducible refine sp_f (by assumption) ?_)
  | (with_reducible refine sp_nt (by first | assumption | rfl) ?_)
  | (with_reducible refine sp_nf (by first | assumption | rfl) ?_)
  | ((with_reducible refine sp_naT ?_ ?_); focus (exact rfl))
  | ((with_reducible refine sp_naF ?_ ?_); focus (exact rfl))
  | ((with_reducible refine sp_aT ?_ ?_); focus (exact rfl))
  | ((with_reducible refine sp_aF ?_ ?_); focus (exact rfl))
  | ((with_reducible refine sp_oaT ?_ ?_); focus (exact rfl))
  | ((with_reducible refine sp_oaF ?_ ?_); focus (exact rfl))
  | (with_reducible refine sp_d (fun hb => ?_) (fun hb => ?_))
  | (with_reducible refine sp_nd (fun hb => ?_) (fun hb => ?_))
  | (with_reducible refine sp_e (fun hb => ?_) (fun hb => ?_))
  | (with_reducible refine sp_ne (fun hb => ?_) (fun hb => ?_))
  | (with_reducible refine sp_xf (fun hb => ?_) (fun hb => ?_))
  | (with_reducible refine sp_xt (fun hb => ?_) (fun hb => ?_))
  | (with_reducible refine sp_b (fun hb => ?_) (fun hb => ?_))
  | ((with_reducible refine u_mayWF ?_); (try (first | (with_reducible refine u_svs1 ?_) | (with_reducible refine u_svs2 ?_) | (with_reducible refine u_svs3 ?_) | (with_reducible refine u_svs4 ?_) | (with_reducible refine u_svs5 ?_) | (with_reducible refine u_svs6 ?_) | (with_reducible refine u_svs7 ?_) | (with_reducible refine u_svs8 ?_))); (first | ((with_reducible refine w_draw (by assumption) ?_ ?_ ?_ ?_); (walk_at "SD.R01v"); (walk_at "SD.R01v"); (walk_at "SD.R01v"); intro r a1 c1 h1 h2 h3; (try simp only [List.length_map, List.length_append, List.length_cons, List.length_nil] at h3); have hb3 := lim3_b r) | ((with_reducible refine w_vehI (by assumption) ?_ ?_ ?_ ?_); (walk_at "SD.R01v"); (walk_at "SD.R01v"); (walk_at "SD.R01v"); intro got a1 c1 h1 h2 h3 h4) | ((with_reducible refine w_rightC (by assumption) (by assumption) ?_)) | fail))
  | ((with_reducible refine And.intro ?_ ?_); focus (first | (walk_at "CLEAN.R01v"; walk_at "OP.R01v"; done) | (walk_at "CLEAN.R01v"; done) | (walk_at "OP.R01v"; done)))
  | fail))
local macro_rules | `(tactic| walk_at "EV.R01v") => `(tactic| repeat' (first | walk_at "EV1.R01v" | fail))
local macro_rules | `(tactic| walk_at "CE.R01v") => `(tactic| try (dsimp only [sset, wipeE, restE, List.map, List.cons_append, List.nil_append, List.append_nil, List.replicate]))
theorem w_s1 {x0 x1 x3 x5 x6 x7 x8 : Option SV} {n : Nat} {a b c : Int} {v4 : Option D} (h : Sc n a b c) (hn : n ≤ 100000) : WS k4S1 (E10 x0 x1 x3 (v4.map SV.d) x5 x6 x7 x8 b a c) (inx (S1 x0 x1 x3 x5 x6 x7 x8 (n + 202) b)) := by
  unfold k4S1
  walk_at "EV.R01v"
  rename_i r a0 c0 g1 g2 g3 g4 got a1 c1 h1 h2 h3 h4
  exact ⟨a1, c1, got, rfl, h4.mono (by omega), by omega, h2, h3⟩
theorem w_s2 {x0 x1 x3 x6 x7 x8 : Option SV} {n : Nat} {a b c : Int} {v5 : Option D} {fl : List Str} (h : Sc n a b c) (hn : n ≤ 100000) (hl : fl.length ≤ 170) : WS k4S2 (E10 x0 x1 x3 (some (.d (.list (fl.map .str)))) (v5.map SV.d) x6 x7 x8 b a c) (inx (S2 x0 x1 x3 x6 x7 x8 fl (n + 1) b)) := by
  unfold k4S2
  walk_at "EV.R01v"
  rename_i r a1 c1 k1 k2 k3 k4
  have hj : 0 ≤ (if r < 40 then r else 40) ∧ (if r < 40 then r else 40) ≤ 40 ∧ (if r < 40 then r else 40) ≤ (fl.length : Nat) := by split <;> omega
  generalize (if r < 40 then r else 40) = j at hj
  obtain ⟨j0, j1, j2⟩ := hj
  rw [cut_to _ _ j0 (by rw [List.length_map]; omega), ← List.map_take]
  exact ⟨a1, c1, fl.take j.toNat, fl.drop j.toNat, rfl, k1, (List.take_append_drop _ _).symm, by rw [List.length_take]; omega⟩
theorem w_s3 {x0 x1 x3 x7 x8 : Option SV} {n : Nat} {a b c : Int} {o6 : Option Ob} {l sp : List Str} (h : Sc n a b c) (hn : n ≤ 100000) (hl : (l ++ sp).length ≤ 170) (hl2 : l.length ≤ 40) (hc : ∀ x ∈ l ++ sp, carB x = true ∧ lvS x = true) : WS k4S3 (E10 x0 x1 x3 (some (.d (.list ((l ++ sp).map .str)))) (some (.d (sD l))) (o6.map (SV.own false)) x7 x8 b a c) (inx (S3 x0 x1 x3 x7 x8 (l ++ sp) l (n + 1101) b)) := by
  unfold k4S3
  walk_at "EV.R01v"
  rename_i r a1 c1 g1 g2 g3 g4
  have m1 := lim2_b r
  have ec : cutD ((l ++ sp).map PyData.str) (some (((l.map PyData.str).length : Nat) : Int)) none = sp.map PyData.str := by
    rw [cut_from _ _ (by omega) (by simp; omega), List.map_append, Int.toNat_natCast, List.drop_left]
  rw [List.length_append] at hl
  rw [ec, List.length_map]
  refine u_svs4 ?_
  refine w_happened (p := l.length) (most := lim2 r) (sp := sp) g1 (by omega) (by omega) (by omega) (by omega) (fun x hx => lvS_ok (hc x (List.mem_append_right _ hx)).2) ?_
  intro es a1 c1 hp hs
  walk_at "EV.R01v"
  obtain ⟨fr, hfr⟩ := hp.fr
  have hel := hp.el
  exact ⟨a1, c1, es, fr, rfl, hs, by rw [hfr, List.append_assoc], hp.room, by omega, hp.small⟩
theorem w_s4 {x0 x1 x3 x4 x5 x8 : Option SV} {n : Nat} {a b c : Int} {o7 : Option Ob} {es : List Ev} (h : Sc n a b c) (hn : n ≤ 100000) (he : es.length ≤ 120) : WS k4S4 (E10 x0 x1 x3 x4 x5 (lO es) (o7.map (SV.own false)) x8 b a c) (inx (S4 x0 x1 x3 x4 x5 x8 es (n + 120) b)) := by
  unfold k4S4
  walk_at "EV.R01v"
  refine u_compO ev es (fun d acc e => M4 x0 x1 x3 x4 x5 (o7.map (SV.own false)) x8 es n b d.length acc e) ?_ ?_ ?_ ?_ ?_
  · rintro d acc e ⟨a1, c1, bs, rfl, i1, i2, i3⟩
    exact ⟨_, rfl⟩
  · exact ⟨_, rfl⟩
  · exact ⟨a, c, [], rfl, rfl, rfl, h⟩
  · rintro d x r acc e hd ⟨a1, c1, bs, rfl, i1, i2, i3⟩
    have hdl := congrArg List.length hd
    rw [List.length_append, List.length_cons] at hdl
    subst i1
    walk_at "EV.R01v"
    rename_i r a2 c2 k1 k2 k3 k4
    refine ⟨a2, c2, bs ++ [decide (r = 0)], rfl, by simp, by simp [i2], ?_⟩
    rw [List.length_append, List.length_singleton]
    exact k1.mono (by omega)
  · rintro acc e ⟨a1, c1, bs, rfl, i1, i2, i3⟩
    subst i1
    walk_at "EV.R01v"
    exact ⟨a1, c1, bs, rfl, i2.symm, i3.mono (by omega)⟩
theorem w_s5 {x0 x1 x3 x4 x8 : Option SV} {a b c : Int} {l : List Str} {es : List Ev} {bs : List Bool} {Q : Rs → Prop} (hb : es.length = bs.length) (hl : LH l es) (q : Q (.nx (E10 x0 x1 x3 x4 (some (.d (sD l))) (lO es) (sO bs) x8 b a c))) : WS k4S5 (E10 x0 x1 x3 x4 (some (.d (sD l))) (lO es) (sO bs) x8 b a c) Q := by
  unfold k4S5
  walk_at "EV.R01v"
  exact q
theorem w_s6 {x0 x1 x3 x4 x5 x7 : Option SV} {n : Nat} {a b c : Int} {es : List Ev} {v8 : Option D} (h : Sc n a b c) (hn : n ≤ 100000) (he : es.length ≤ 120) : WS k4S6 (E10 x0 x1 x3 x4 x5 (lO es) x7 (v8.map SV.d) b a c) (inx (S6 x0 x1 x3 x4 x5 (lO es) x7 (n + 1) es.length b)) := by
  unfold k4S6
  walk_at "EV.R01v"
  rename_i r a2 c2 k1 k2 k3 k4
  exact ⟨a2, c2, r, rfl, k1, k2, by omega⟩
theorem w_s7 {x0 x1 x3 x4 x5 x7 : Option SV} {a b c r : Int} {es : List Ev} {Q : Rs → Prop} (h0 : 0 ≤ r) (h1 : r ≤ es.length) (q : Q (.nx (E10 x0 x1 x3 x4 x5 (lO (es.take r.toNat)) x7 (some (.d (.int r))) b a c))) : WS k4S7 (E10 x0 x1 x3 x4 x5 (lO es) x7 (some (.d (.int r))) b a c) Q := by
  unfold k4S7
  refine u_cut ⟨_, _, rfl, u_var rfl ⟨_, _, _, _, rfl, rfl, if_pos ⟨h0, by rw [List.length_map]; exact h1⟩, ?_⟩⟩
  rw [← List.map_take]
  exact q
theorem w_s8 {x0 x1 x3 x4 x5 x6 : Option SV} {a b c r : Int} {bs : List Bool} {Q : Rs → Prop} (h0 : 0 ≤ r) (h1 : r ≤ bs.length) (q : Q (.nx (E10 x0 x1 x3 x4 x5 x6 (sO (bs.take r.toNat)) (some (.d (.int r))) b a c))) : WS k4S8 (E10 x0 x1 x3 x4 x5 x6 (sO bs) (some (.d (.int r))) b a c) Q := by
  unfold k4S8
  refine u_cut ⟨_, _, rfl, u_var rfl ⟨_, _, _, _, rfl, rfl, if_pos ⟨h0, by rw [List.length_map]; exact h1⟩, ?_⟩⟩
  rw [← List.map_take]
  exact q
theorem w_s9 {x0 x1 x3 x4 x8 : Option SV} {a b c : Int} {l : List Str} {es : List Ev} {bs : List Bool} {Q : Rs → Prop} (hb : es.length = bs.length) (hl : LH l es) (q : Q (.nx (E10 x0 x1 x3 x4 (some (.d (sD l))) (lO es) (sO bs) x8 b a c))) : WS k4S9 (E10 x0 x1 x3 x4 (some (.d (sD l))) (lO es) (sO bs) x8 b a c) Q := by
  unfold k4S9
  walk_at "EV.R01v"
  exact q
end Ol
set_option Elab.async false
set_option linter.all false
set_option maxRecDepth 100000
set_option maxHeartbeats 4000000
namespace Ol
open PySem PySem.Spec PyProof.Rows L2
theorem inx_turn {I : Env → Prop} {QS : Rs → Prop} {r : Rs} (h : inx I r) : turn I QS r := by
  cases r with
  | nx e => exact h
  | ret v e => exact h.elim
  | bk e => exact h.elim
  | ct e => exact h.elim
structure TnI (x0 : Option SV) (kk : D) (n : Nat) (b : Int) (e : Env) : Prop where
  ex : ∃ (a c : Int) (v3 v4 v5 v8 : Option D) (o6 o7 : Option Ob), e = E10 x0 (some (.d kk)) (v3.map SV.d) (v4.map SV.d) (v5.map SV.d) (o6.map (SV.own false)) (o7.map (SV.own false)) (v8.map SV.d) b a c ∧ Sc n a b c
theorem w_k4B {x0 : Option SV} {kk t : D} {n : Nat} {a b c : Int} {v4 v5 v8 : Option D} {o6 o7 : Option Ob} (h : Sc n a b c) (hn : n ≤ 50000) : WS k4B (E10 x0 (some (.d kk)) (some (.d t)) (v4.map SV.d) (v5.map SV.d) (o6.map (SV.own false)) (o7.map (SV.own false)) (v8.map SV.d) b a c) (inx (TnI x0 kk (n + 1600) b)) := by
  unfold k4B
  refine u_seqI _ (w_s1 h (by omega)) ?_
  rintro e ⟨a1, c1, fl, rfl, h1, f1, f2, f3⟩
  refine u_seqI _ (w_s2 h1 (by omega) f1) ?_
  rintro e ⟨a2, c2, l, sp, rfl, h2, hfl, l1⟩
  subst hfl
  refine u_seqI _ (w_s3 h2 (by omega) f1 l1 f3) ?_
  rintro e ⟨a3, c3, es, fr, rfl, h3, hfr, rm, el, sm⟩
  generalize l ++ sp = fl at hfr f1 f2 f3
  have L : LG l es := by
    refine ⟨fun x hx => f3 x (by rw [hfr]; exact List.mem_append_left _ hx), ?_, rm, by omega⟩
    rw [hfr] at f2
    exact (List.nodup_append.mp f2).1
  refine u_seqI _ (w_s4 h3 (by omega) el) ?_
  rintro e ⟨a4, c4, bs, rfl, hb, h4⟩
  refine u_seq (w_s5 hb (LH.of L sm l1 el) ?_)
  refine u_seqI _ (w_s6 h4 (by omega) el) ?_
  rintro e ⟨a5, c5, r, rfl, h5, r0, r1⟩
  refine u_seq (w_s7 r0 r1 ?_)
  refine u_seq (w_s8 r0 (by rw [← hb]; exact r1) ?_)
  have L2 : LG l (es.take r.toNat) := LG.left (b := es.drop r.toNat) (by rw [List.take_append_drop]; exact L)
  refine w_s9 (by rw [List.length_take, List.length_take, hb]) (LH.of L2 (fun d q he => ?_) l1 (by rw [List.length_take]; omega)) ?_
  · exact sm d (q ++ es.drop r.toNat) (by rw [← List.append_assoc, ← he, List.take_append_drop])
  · exact ⟨a5, c5, some t, some _, some _, some _, some _, some _, rfl, h5.mono (by omega)⟩
local macro_rules | `(tactic| walk_at "SD.R01w") => `(tactic| first
  | omega
  | (simp only [List.length_map, List.length_append, List.length_cons, List.length_nil, List.length_drop, List.length_take, List.length_dropLast, List.length_singleton, List.length_eraseIdx, List.length_zipIdx, List.length_range, List.length_range', List.length_reverse, List.length_set]; omega)
  | (with_reducible assumption))
local macro_rules | `(tactic| walk_at "CLEAN.R01w") => `(tactic| dsimp only [rd, rds, sget, sset, fz, fzs, fzP, flt, store, stores, svOf, comps, mNames, back, backs, Ob.rv, Ob.kind, pars, par, fzIO, putOuts, outsOf, okSlots, pick, wipeE, restE, frT, List.map, List.append_nil, List.nil_append, List.cons_append, List.replicate, Option.bind_some, bD, iD, if_true, reduceIte, List.getElem?_cons_zero, List.getElem?_cons_succ])
local macro_rules | `(tactic| walk_at "CL.R01w") => `(tactic| try (dsimp only [rd, rds, sget, sset, fz, fzs, fzP, flt, store, stores, svOf, comps, mNames, back, backs, Ob.rv, Ob.kind, pars, par, fzIO, putOuts, outsOf, okSlots, pick, wipeE, restE, frT, Option.map_some, List.map, List.append_nil, List.nil_append, List.cons_append, List.replicate, Option.bind_some, bD, iD, if_true, reduceIte, List.getElem?_cons_zero, List.getElem?_cons_succ]))
local macro_rules | `(tactic| walk_at "OP.R01w") => `(tactic| first
  | (with_reducible assumption)
  | (apply_rules (transparency := .reducible) (maxDepth := 1) only [in_tup, in_lst, in_set, in_dic, ix_list0, ix_list1, ix_tup0, ix_tup1, o_eqI, o_neI, ix_evI, ix_evC, ix_evO, o_eqII, o_eqOI, o_eqIO, o_eqOO, o_neNilI, o_eqNilI, o_rev, o_isB, strsOf_strs])
  | ((with_reducible refine o_addS ?_); walk_at "SD.R01w")
  | ((with_reducible refine o_addT ?_); walk_at "SD.R01w")
  | ((with_reducible refine o_addL ?_); walk_at "SD.R01w")
  | ((with_reducible refine f_append ?_); walk_at "SD.R01w")
  | (with_reducible exact o_txIn)
  | ((with_reducible refine o_reprJ ?_); (with_reducible assumption))
  | ((with_reducible refine o_div ?_ ?_) <;> walk_at "SD.R01w")
  | ((with_reducible refine o_mod ?_); walk_at "SD.R01w")
  | (with_reducible refine o_eqS (by first | assumption | exact ok_in | exact ok_out) (by first | assumption | exact ok_in | exact ok_out))
  | ((with_reducible refine o_ixS ?_ ?_) <;> walk_at "SD.R01w")
  | ((with_reducible refine o_ixT ?_ ?_) <;> walk_at "SD.R01w")
  | ((with_reducible refine f_setS ?_ ?_) <;> walk_at "SD.R01w")
  | ((with_reducible refine o_minL ?_); walk_at "SD.R01w")
  | ((with_reducible refine o_neNil ?_); (with_reducible assumption))
  | ((with_reducible refine o_eqNil ?_); (with_reducible assumption))
  | ((with_reducible refine f_popAt ?_ ?_ ?_) <;> walk_at "SD.R01w")
  | ((fail_if_success (with_reducible apply may_pop)); exact rfl)
  | (exact store_om rfl rfl)
  | (exact store_oo rfl rfl)
  | walk_at "SD.R01w")
local macro_rules | `(tactic| walk_at "EV1.R01w") => `(tactic| (first
  | (apply_rules (transparency := .reducible) (maxDepth := 500) only [u_thn, u_thnR, u_turn, u_turnR, u_finN, u_finR, u_inx, u_seq, u_ifS, u_skip, u_asgF, u_asg, u_asgT, u_idx, u_listR, u_ssI, u_ss, u_drop, u_ret, u_retN, u_retT, u_par, u_setIx, u_for, u_break, u_cont, u_c, u_newT, u_dic0, u_repL, u_m1, u_m2, u_nil, u_cons, u_mB, u_tup, u_lst, u_test, u_tru, u_yes, u_andT, u_orT, u_notT, u_and, u_or, u_not, u_if, u_chain, u_noP, u_P, u_sl, u_meth, u_isi, u_isi2, u_call, u_callK, u_iter, u_enum, u_range1, u_range2, sp_tt, sp_ff, Exists.intro])
  | ((with_reducible refine u_mayVar ?_); first | (refine u_var rfl ?_) | (refine u_varO rfl ?_))
  | ((with_reducible refine u_mayAug ?_); (refine u_aug (by first | exact rfl | (walk_at "CLEAN.R01w"; exact rfl)) ?_))
  | ((with_reducible refine u_mayWG ?_); first | (refine u_g (by first | (walk_at "CLEAN.R01w"; exact rfl) | (walk_at "CLEAN.R01w"; done) | exact store_om rfl rfl | exact store_oo rfl rfl) ?_) | (refine u_gs (by first | (walk_at "CLEAN.R01w"; exact rfl) | (walk_at "CLEAN.R01w"; done)) ?_))
  | ((with_reducible refine sp_dt ?_ ?_); focus (first | assumption | omega))
  | ((with_reducible refine sp_df ?_ ?_); focus (first | assumption | omega))
  | ((with_reducible refine sp_et ?_ ?_); focus (first | assumption | omega))
  | ((with_reducible refine sp_ndt ?_ ?_); focus (first | assumption | omega))
  | ((with_reducible refine sp_ndf ?_ ?_); focus (first | assumption | omega))
  | ((with_reducible refine sp_ef ?_ ?_); focus (first | assumption | omega))
  | (with_reducible refine sp_t (by assumption) ?_)
  | (with_reducible refine sp_f (by assumption) ?_)
  | (with_reducible refine sp_nt (by first | assumption | rfl) ?_)
  | (with_reducible refine sp_nf (by first | assumption | rfl) ?_)
  | ((with_reducible refine sp_naT ?_ ?_); focus (exact rfl))
  | ((with_reducible refine sp_naF ?_ ?_); focus (exact rfl))
  | ((with_reducible refine sp_aT ?_ ?_); focus (exact rfl))
  | ((with_reducible refine sp_aF ?_ ?_); focus (exact rfl))
  | ((with_reducible refine sp_oaT ?_ ?_); focus (exact rfl))
  | ((with_reducible refine sp_oaF ?_ ?_); focus (exact rfl))
  | (with_reducible refine sp_d (fun hb => ?_) (fun hb => ?_))
  | (with_reducible refine sp_nd (fun hb => ?_) (fun hb => ?_))
  | (with_reducible refine sp_e (fun hb => ?_) (fun hb => ?_))
  | (with_reducible refine sp_ne (fun hb => ?_) (fun hb => ?_))
  | (with_reducible refine sp_xf (fun hb => ?_) (fun hb => ?_))
  | (with_reducible refine sp_xt (fun hb => ?_) (fun hb => ?_))
  | (with_reducible refine sp_b (fun hb => ?_) (fun hb => ?_))
  | ((with_reducible refine u_mayWF ?_); (try (first | (with_reducible refine u_svs1 ?_) | (with_reducible refine u_svs2 ?_) | (with_reducible refine u_svs3 ?_) | (with_reducible refine u_svs4 ?_) | (with_reducible refine u_svs5 ?_) | (with_reducible refine u_svs6 ?_) | (with_reducible refine u_svs7 ?_) | (with_reducible refine u_svs8 ?_))); (first  | fail))
  | ((with_reducible refine And.intro ?_ ?_); focus (first | (walk_at "CLEAN.R01w"; walk_at "OP.R01w"; done) | (walk_at "CLEAN.R01w"; done) | (walk_at "OP.R01w"; done)))
  | fail))
local macro_rules | `(tactic| walk_at "EV.R01w") => `(tactic| repeat' (first | walk_at "EV1.R01w" | fail))
local macro_rules | `(tactic| walk_at "CE.R01w") => `(tactic| try (dsimp only [sset, wipeE, restE, List.map, List.cons_append, List.nil_append, List.append_nil, List.replicate]))
theorem w_inner {x0 : Option SV} {kk : D} {a b c : Int} {v3 v4 v5 v8 : Option D} {o6 o7 : Option Ob} (h : Sc 0 a b c) : WS k4I (E10 x0 (some (.d kk)) (v3.map SV.d) (v4.map SV.d) (v5.map SV.d) (o6.map (SV.own false)) (o7.map (SV.own false)) (v8.map SV.d) b a c) (inx (TnI x0 kk 10000 b)) := by
  unfold k4I
  walk_at "EV.R01w"
  refine u_forI (fun i e => TnI x0 kk (1600 * i) b e ∧ i ≤ 3) _ ⟨⟨a, c, v3, v4, v5, v8, o6, o7, rfl, h⟩, by omega⟩ ?_ ?_
  · rintro i x e hx ⟨⟨a1, c1, u3, u4, u5, u8, p6, p7, rfl, h1⟩, hi⟩
    have hil : i < 3 := by
      by_cases z : i < 3
      · exact z
      · rw [List.getElem?_eq_none (by simp [rangeD]; omega)] at hx; cases hx
    refine ⟨E10 x0 (some (.d kk)) (some (.d x)) (u4.map SV.d) (u5.map SV.d) (p6.map (SV.own false)) (p7.map (SV.own false)) (u8.map SV.d) b a1 c1, store_om rfl rfl, ?_⟩
    refine WS.mono (w_k4B h1 (by omega)) fun r hr => ?_
    cases r with
    | nx e2 =>
      obtain ⟨a2, c2, t3, t4, t5, t8, q6, q7, rfl, h2⟩ := hr
      exact ⟨⟨a2, c2, t3, t4, t5, t8, q6, q7, rfl, h2.mono (by omega)⟩, by omega⟩
    | ret v e => exact hr.elim
    | bk e => exact hr.elim
    | ct e => exact hr.elim
  · rintro e ⟨⟨a1, c1, u3, u4, u5, u8, p6, p7, rfl, h1⟩, hi⟩
    exact ⟨a1, c1, u3, u4, u5, u8, p6, p7, rfl, h1.mono (by omega)⟩
structure OuI (ns : D) (e : Env) : Prop where
  ex : ∃ (v1 v3 v4 v5 v8 : Option D) (o2 o6 o7 : Option Ob), e = [some (.d ns), v1.map SV.d, o2.map (SV.own false), v3.map SV.d, v4.map SV.d, v5.map SV.d, o6.map (SV.own false), o7.map (SV.own false), v8.map SV.d, none]
local macro_rules | `(tactic| walk_at "SD.R01w") => `(tactic| first
  | omega
  | (simp only [List.length_map, List.length_append, List.length_cons, List.length_nil, List.length_drop, List.length_take, List.length_dropLast, List.length_singleton, List.length_eraseIdx, List.length_zipIdx, List.length_range, List.length_range', List.length_reverse, List.length_set]; omega)
  | (with_reducible assumption))
local macro_rules | `(tactic| walk_at "CLEAN.R01w") => `(tactic| dsimp only [rd, rds, sget, sset, fz, fzs, fzP, flt, store, stores, svOf, comps, mNames, back, backs, Ob.rv, Ob.kind, pars, par, fzIO, putOuts, outsOf, okSlots, pick, wipeE, restE, frT, List.map, List.append_nil, List.nil_append, List.cons_append, List.replicate, Option.bind_some, bD, iD, if_true, reduceIte, List.getElem?_cons_zero, List.getElem?_cons_succ])
local macro_rules | `(tactic| walk_at "CL.R01w") => `(tactic| try (dsimp only [rd, rds, sget, sset, fz, fzs, fzP, flt, store, stores, svOf, comps, mNames, back, backs, Ob.rv, Ob.kind, pars, par, fzIO, putOuts, outsOf, okSlots, pick, wipeE, restE, frT, Option.map_some, List.map, List.append_nil, List.nil_append, List.cons_append, List.replicate, Option.bind_some, bD, iD, if_true, reduceIte, List.getElem?_cons_zero, List.getElem?_cons_succ]))
local macro_rules | `(tactic| walk_at "OP.R01w") => `(tactic| first
  | (with_reducible assumption)
  | (apply_rules (transparency := .reducible) (maxDepth := 1) only [in_tup, in_lst, in_set, in_dic, ix_list0, ix_list1, ix_tup0, ix_tup1, o_eqI, o_neI, ix_evI, ix_evC, ix_evO, o_eqII, o_eqOI, o_eqIO, o_eqOO, o_neNilI, o_eqNilI, o_rev, o_isB, strsOf_strs])
  | ((with_reducible refine o_addS ?_); walk_at "SD.R01w")
  | ((with_reducible refine o_addT ?_); walk_at "SD.R01w")
  | ((with_reducible refine o_addL ?_); walk_at "SD.R01w")
  | ((with_reducible refine f_append ?_); walk_at "SD.R01w")
  | (with_reducible exact o_txIn)
  | ((with_reducible refine o_reprJ ?_); (with_reducible assumption))
  | ((with_reducible refine o_div ?_ ?_) <;> walk_at "SD.R01w")
  | ((with_reducible refine o_mod ?_); walk_at "SD.R01w")
  | (with_reducible refine o_eqS (by first | assumption | exact ok_in | exact ok_out) (by first | assumption | exact ok_in | exact ok_out))
  | ((with_reducible refine o_ixS ?_ ?_) <;> walk_at "SD.R01w")
  | ((with_reducible refine o_ixT ?_ ?_) <;> walk_at "SD.R01w")
  | ((with_reducible refine f_setS ?_ ?_) <;> walk_at "SD.R01w")
  | ((with_reducible refine o_minL ?_); walk_at "SD.R01w")
  | ((with_reducible refine o_neNil ?_); (with_reducible assumption))
  | ((with_reducible refine o_eqNil ?_); (with_reducible assumption))
  | ((with_reducible refine f_popAt ?_ ?_ ?_) <;> walk_at "SD.R01w")
  | ((fail_if_success (with_reducible apply may_pop)); exact rfl)
  | (exact store_om rfl rfl)
  | (exact store_oo rfl rfl)
  | walk_at "SD.R01w")
local macro_rules | `(tactic| walk_at "EV1.R01w") => `(tactic| (first
  | (apply_rules (transparency := .reducible) (maxDepth := 500) only [u_thn, u_thnR, u_turn, u_turnR, u_finN, u_finR, u_inx, u_seq, u_ifS, u_skip, u_asgF, u_asg, u_asgT, u_idx, u_listR, u_ssI, u_ss, u_drop, u_ret, u_retN, u_retT, u_par, u_setIx, u_for, u_break, u_cont, u_c, u_newT, u_dic0, u_repL, u_m1, u_m2, u_nil, u_cons, u_mB, u_tup, u_lst, u_test, u_tru, u_yes, u_andT, u_orT, u_notT, u_and, u_or, u_not, u_if, u_chain, u_noP, u_P, u_sl, u_meth, u_isi, u_isi2, u_call, u_callK, u_iter, u_enum, u_range1, u_range2, sp_tt, sp_ff, Exists.intro])
  | ((with_reducible refine u_mayVar ?_); first | (refine u_var rfl ?_) | (refine u_varO rfl ?_))
  | ((with_reducible refine u_mayAug ?_); (refine u_aug (by first | exact rfl | (walk_at "CLEAN.R01w"; exact rfl)) ?_))
  | ((with_reducible refine u_mayWG ?_); first | (refine u_g (by first | (walk_at "CLEAN.R01w"; exact rfl) | (walk_at "CLEAN.R01w"; done) | exact store_om rfl rfl | exact store_oo rfl rfl) ?_) | (refine u_gs (by first | (walk_at "CLEAN.R01w"; exact rfl) | (walk_at "CLEAN.R01w"; done)) ?_))
  | ((with_reducible refine sp_dt ?_ ?_); focus (first | assumption | omega))
  | ((with_reducible refine sp_df ?_ ?_); focus (first | assumption | omega))
  | ((with_reducible refine sp_et ?_ ?_); focus (first | assumption | omega))
  | ((with_reducible refine sp_ndt ?_ ?_); focus (first | assumption | omega))
  | ((with_reducible refine sp_ndf ?_ ?_); focus (first | assumption | omega))
  | ((with_reducible refine sp_ef ?_ ?_); focus (first | assumption | omega))
  | (with_reducible refine sp_t (by assumption) ?_)
  | (with_reducible refine sp_f (by assumption) ?_)
  | (with_reducible refine sp_nt (by first | assumption | rfl) ?_)
  | (with_reducible refine sp_nf (by first | assumption | rfl) ?_)
  | ((with_reducible refine sp_naT ?_ ?_); focus (exact rfl))
  | ((with_reducible refine sp_naF ?_ ?_); focus (exact rfl))
  | ((with_reducible refine sp_aT ?_ ?_); focus (exact rfl))
  | ((with_reducible refine sp_aF ?_ ?_); focus (exact rfl))
  | ((with_reducible refine sp_oaT ?_ ?_); focus (exact rfl))
  | ((with_reducible refine sp_oaF ?_ ?_); focus (exact rfl))
  | (with_reducible refine sp_d (fun hb => ?_) (fun hb => ?_))
  | (with_reducible refine sp_nd (fun hb => ?_) (fun hb => ?_))
  | (with_reducible refine sp_e (fun hb => ?_) (fun hb => ?_))
  | (with_reducible refine sp_ne (fun hb => ?_) (fun hb => ?_))
  | (with_reducible refine sp_xf (fun hb => ?_) (fun hb => ?_))
  | (with_reducible refine sp_xt (fun hb => ?_) (fun hb => ?_))
  | (with_reducible refine sp_b (fun hb => ?_) (fun hb => ?_))
  | ((with_reducible refine u_mayWF ?_); (try (first | (with_reducible refine u_svs1 ?_) | (with_reducible refine u_svs2 ?_) | (with_reducible refine u_svs3 ?_) | (with_reducible refine u_svs4 ?_) | (with_reducible refine u_svs5 ?_) | (with_reducible refine u_svs6 ?_) | (with_reducible refine u_svs7 ?_) | (with_reducible refine u_svs8 ?_))); (first  | fail))
  | ((with_reducible refine And.intro ?_ ?_); focus (first | (walk_at "CLEAN.R01w"; walk_at "OP.R01w"; done) | (walk_at "CLEAN.R01w"; done) | (walk_at "OP.R01w"; done)))
  | fail))
local macro_rules | `(tactic| walk_at "EV.R01w") => `(tactic| repeat' (first | walk_at "EV1.R01w" | fail))
local macro_rules | `(tactic| walk_at "CE.R01w") => `(tactic| try (dsimp only [sset, wipeE, restE, List.map, List.cons_append, List.nil_append, List.append_nil, List.replicate]))
theorem w_outer {ns : List Int} {k : Nat} {v3 v4 v5 v8 : Option D} {o2 o6 o7 : Option Ob} (hk : k < 100) (hl : ns.length ≤ 63) : WS k4O
    [some (.d (.list (ns.map .int))), some (.d (.int (k : Nat))), o2.map (SV.own false), v3.map SV.d, v4.map SV.d, v5.map SV.d, o6.map (SV.own false), o7.map (SV.own false), v8.map SV.d, none] (inx (OuI (.list (ns.map .int)))) := by
  have fin : ∀ {b : Int} {r : Rs}, inx (TnI (some (.d (.list (ns.map .int)))) (.int (k : Nat)) 10000 b) r → inx (OuI (.list (ns.map .int))) r := fun {b r} hr => by
    cases r with
    | nx e2 =>
      obtain ⟨a2, c2, t3, t4, t5, t8, q6, q7, rfl, h2⟩ := hr
      exact ⟨some _, t3, t4, t5, t8, some _, q6, q7, rfl⟩
    | ret v e => exact hr.elim
    | bk e => exact hr.elim
    | ct e => exact hr.elim
  unfold k4O
  generalize hX : k4I = X
  have inner := @w_inner (some (.d (.list (ns.map .int)))) (.int (k : Nat))
  rw [hX] at inner
  walk_at "EV.R01w"
  refine w_source (ns := ns) hk (by omega) fun a b c hs => ?_
  walk_at "EV.R01w"
  exact WS.mono (inner hs) fun r hr => fin hr
local macro_rules | `(tactic| walk_at "SD.R01w") => `(tactic| first
  | omega
  | (simp only [List.length_map, List.length_append, List.length_cons, List.length_nil, List.length_drop, List.length_take, List.length_dropLast, List.length_singleton, List.length_eraseIdx, List.length_zipIdx, List.length_range, List.length_range', List.length_reverse, List.length_set]; omega)
  | (with_reducible assumption))
local macro_rules | `(tactic| walk_at "CLEAN.R01w") => `(tactic| dsimp only [rd, rds, sget, sset, fz, fzs, fzP, flt, store, stores, svOf, comps, mNames, back, backs, Ob.rv, Ob.kind, pars, par, fzIO, putOuts, outsOf, okSlots, pick, wipeE, restE, frT, List.map, List.append_nil, List.nil_append, List.cons_append, List.replicate, Option.bind_some, bD, iD, if_true, reduceIte, List.getElem?_cons_zero, List.getElem?_cons_succ])
local macro_rules | `(tactic| walk_at "CL.R01w") => `(tactic| try (dsimp only [rd, rds, sget, sset, fz, fzs, fzP, flt, store, stores, svOf, comps, mNames, back, backs, Ob.rv, Ob.kind, pars, par, fzIO, putOuts, outsOf, okSlots, pick, wipeE, restE, frT, Option.map_some, List.map, List.append_nil, List.nil_append, List.cons_append, List.replicate, Option.bind_some, bD, iD, if_true, reduceIte, List.getElem?_cons_zero, List.getElem?_cons_succ]))
local macro_rules | `(tactic| walk_at "OP.R01w") => `(tactic| first
  | (with_reducible assumption)
  | (apply_rules (transparency := .reducible) (maxDepth := 1) only [in_tup, in_lst, in_set, in_dic, ix_list0, ix_list1, ix_tup0, ix_tup1, o_eqI, o_neI, ix_evI, ix_evC, ix_evO, o_eqII, o_eqOI, o_eqIO, o_eqOO, o_neNilI, o_eqNilI, o_rev, o_isB, strsOf_strs])
  | ((with_reducible refine o_addS ?_); walk_at "SD.R01w")
  | ((with_reducible refine o_addT ?_); walk_at "SD.R01w")
  | ((with_reducible refine o_addL ?_); walk_at "SD.R01w")
  | ((with_reducible refine f_append ?_); walk_at "SD.R01w")
  | (with_reducible exact o_txIn)
  | ((with_reducible refine o_reprJ ?_); (with_reducible assumption))
  | ((with_reducible refine o_div ?_ ?_) <;> walk_at "SD.R01w")
  | ((with_reducible refine o_mod ?_); walk_at "SD.R01w")
  | (with_reducible refine o_eqS (by first | assumption | exact ok_in | exact ok_out) (by first | assumption | exact ok_in | exact ok_out))
  | ((with_reducible refine o_ixS ?_ ?_) <;> walk_at "SD.R01w")
  | ((with_reducible refine o_ixT ?_ ?_) <;> walk_at "SD.R01w")
  | ((with_reducible refine f_setS ?_ ?_) <;> walk_at "SD.R01w")
  | ((with_reducible refine o_minL ?_); walk_at "SD.R01w")
  | ((with_reducible refine o_neNil ?_); (with_reducible assumption))
  | ((with_reducible refine o_eqNil ?_); (with_reducible assumption))
  | ((with_reducible refine f_popAt ?_ ?_ ?_) <;> walk_at "SD.R01w")
  | ((fail_if_success (with_reducible apply may_pop)); exact rfl)
  | (exact store_om rfl rfl)
  | (exact store_oo rfl rfl)
  | walk_at "SD.R01w")
local macro_rules | `(tactic| walk_at "EV1.R01w") => `(tactic| (first
  | (apply_rules (transparency := .reducible) (maxDepth := 500) only [u_thn, u_thnR, u_turn, u_turnR, u_finN, u_finR, u_inx, u_seq, u_ifS, u_skip, u_asgF, u_asg, u_asgT, u_idx, u_listR, u_ssI, u_ss, u_drop, u_ret, u_retN, u_retT, u_par, u_setIx, u_for, u_break, u_cont, u_c, u_newT, u_dic0, u_repL, u_m1, u_m2, u_nil, u_cons, u_mB, u_tup, u_lst, u_test, u_tru, u_yes, u_andT, u_orT, u_notT, u_and, u_or, u_not, u_if, u_chain, u_noP, u_P, u_sl, u_meth, u_isi, u_isi2, u_call, u_callK, u_iter, u_enum, u_range1, u_range2, sp_tt, sp_ff, Exists.intro])
  | ((with_reducible refine u_mayVar ?_); first | (refine u_var rfl ?_) | (refine u_varO rfl ?_))
  | ((with_reducible refine u_mayAug ?_); (refine u_aug (by first | exact rfl | (walk_at "CLEAN.R01w"; exact rfl)) ?_))
  | ((with_reducible refine u_mayWG ?_); first | (refine u_g (by first | (walk_at "CLEAN.R01w"; exact rfl) | (walk_at "CLEAN.R01w"; done) | exact store_om rfl rfl | exact store_oo rfl rfl) ?_) | (refine u_gs (by first | (walk_at "CLEAN.R01w"; exact rfl) | (walk_at "CLEAN.R01w"; done)) ?_))
  | ((with_reducible refine sp_dt ?_ ?_); focus (first | assumption | omega))
  | ((with_reducible refine sp_df ?_ ?_); focus (first | assumption | omega))
  | ((with_reducible refine sp_et ?_ ?_); focus (first | assumption | omega))
  | ((with_reducible refine sp_ndt ?_ ?_); focus (first | assumption | omega))
  | ((with_reducible refine sp_ndf ?_ ?_); focus (first | assumption | omega))
  | ((with_reducible refine sp_ef ?_ ?_); focus (first | assumption | omega))
  | (with_reducible refine sp_t (by assumption) ?_)
  | (with_reducible refine sp_f (by assumption) ?_)
  | (with_reducible refine sp_nt (by first | assumption | rfl) ?_)
  | (with_reducible refine sp_nf (by first | assumption | rfl) ?_)
  | ((with_reducible refine sp_naT ?_ ?_); focus (exact rfl))
  | ((with_reducible refine sp_naF ?_ ?_); focus (exact rfl))
  | ((with_reducible refine sp_aT ?_ ?_); focus (exact rfl))
  | ((with_reducible refine sp_aF ?_ ?_); focus (exact rfl))
  | ((with_reducible refine sp_oaT ?_ ?_); focus (exact rfl))
  | ((with_reducible refine sp_oaF ?_ ?_); focus (exact rfl))
  | (with_reducible refine sp_d (fun hb => ?_) (fun hb => ?_))
  | (with_reducible refine sp_nd (fun hb => ?_) (fun hb => ?_))
  | (with_reducible refine sp_e (fun hb => ?_) (fun hb => ?_))
  | (with_reducible refine sp_ne (fun hb => ?_) (fun hb => ?_))
  | (with_reducible refine sp_xf (fun hb => ?_) (fun hb => ?_))
  | (with_reducible refine sp_xt (fun hb => ?_) (fun hb => ?_))
  | (with_reducible refine sp_b (fun hb => ?_) (fun hb => ?_))
  | ((with_reducible refine u_mayWF ?_); (try (first | (with_reducible refine u_svs1 ?_) | (with_reducible refine u_svs2 ?_) | (with_reducible refine u_svs3 ?_) | (with_reducible refine u_svs4 ?_) | (with_reducible refine u_svs5 ?_) | (with_reducible refine u_svs6 ?_) | (with_reducible refine u_svs7 ?_) | (with_reducible refine u_svs8 ?_))); (first  | fail))
  | ((with_reducible refine And.intro ?_ ?_); focus (first | (walk_at "CLEAN.R01w"; walk_at "OP.R01w"; done) | (walk_at "CLEAN.R01w"; done) | (walk_at "OP.R01w"; done)))
  | fail))
local macro_rules | `(tactic| walk_at "EV.R01w") => `(tactic| repeat' (first | walk_at "EV1.R01w" | fail))
local macro_rules | `(tactic| walk_at "CE.R01w") => `(tactic| try (dsimp only [sset, wipeE, restE, List.map, List.cons_append, List.nil_append, List.append_nil, List.replicate]))
theorem w_law {ns : List Int} {Q : PV → List (Option Ob) → Prop} (h : ns.length ≤ 63) (q : Q (.d (.bool true)) [none]) : WF fn_law [.d (.list (ns.map .int))] Q := by
  refine u_fn rfl ?_
  rw [lw_is]
  walk_at "CLEAN.R01w"
  walk_at "EV.R01w"
  rw [List.length_map]
  generalize hN : (if (if (ns.length : Int) < 5 then (ns.length : Int) else 5) > 1 then (if (ns.length : Int) < 5 then (ns.length : Int) else 5) else 1).toNat = N
  have hN4 : N ≤ 5 := by
    rw [← hN]
    split <;> split <;> omega
  rw [rangeD_nat]
  refine u_forM (fun i : Nat => PyData.int (i : Nat)) (fun _ e => OuI (.list (ns.map .int)) e) (List.range N) ⟨none, none, none, none, none, none, none, none, rfl⟩ ?_ ?_
  · rintro d x r e hl ⟨v1, v3, v4, v5, v8, o2, o6, o7, rfl⟩
    have hx : x < N := by
      have : x ∈ List.range N := by rw [hl]; simp
      simpa using this
    exact ⟨_, store_om rfl rfl, WS.mono (w_outer (k := x) (by omega) h) fun r hr => inx_turn hr⟩
  · rintro e ⟨v1, v3, v4, v5, v8, o2, o6, o7, rfl⟩
    walk_at "EV.R01w"
    exact q
theorem pure_law (ns : List Int) (h : ns.length ≤ 63) : fn_law [.d (.list (ns.map .int))] = some (.d (.bool true), [none]) := by
  obtain ⟨r, o, h1, h2⟩ := w_law (Q := fun r o => r = .d (.bool true) ∧ o = [none]) h ⟨rfl, rfl⟩
  rw [h1, h2.1, h2.2]
end Ol
namespace Ol
open PySem PySem.Spec PyProof.Rows L2
def spLaw (K : Fg) : Sp := fun vs H Q _ => ∃ (a : Addr) (ns : List Int), vs = [.ref a] ∧ SqL K H a (ns.map V.int) ∧ ns.length ≤ 63 ∧ ∀ H', Q (.bl true) H'
theorem facts {P : Program} {w : World} {K : Fg} {h : Heap} {mg : Str → Option Value} {fl : Addr} (X : K.In h) (Gn : h.Ns mainGlobals mg) (hfa : mg ("law" : Str) = some (.ref fl)) (c : He.SaysD fa fn K) :
    ∃ fd : FuncData, (∀ (s : Shared) (v : Value), BindsTo s fd ⟨[v], []⟩ [("script", v)]) ∧ ∀ base : Heap, FnG P w K mg base L2.CX0 20 fl fd ["script"] (spLaw K) := by
  have e := hfa.symm.trans (He.glo_ok X Gn (c.fact 21 (f := .glo "law") rfl))
  cases e
  obtain ⟨fd, F⟩ := c.def_ 21 (d := dd "law" 34) rfl
  have b := FunD.bindsA (ps := ["script"]) F fun _ _ _ _ _ _ us hl => match us, hl with | [_], _ => rfl
  have G := gb c X Gn
  refine ⟨fd, fun s v => b s [v] rfl, fun base => ?_⟩
  have s_is_car := w_is_car (P := P) (w := w) (base := base) c X Gn G 
  have s_is_lane := w_is_lane (P := P) (w := w) (base := base) c X Gn G s_is_car
  have s_is_side := w_is_side (P := P) (w := w) (base := base) c X Gn G 
  have s_is_arrival := w_is_arrival (P := P) (w := w) (base := base) c X Gn G s_is_car
  have s_is_departure := w_is_departure (P := P) (w := w) (base := base) c X Gn G 
  have s_check_lane := w_check_lane (P := P) (w := w) (base := base) c X Gn G s_is_lane
  have s_is_log_for := w_is_log_for (P := P) (w := w) (base := base) c X Gn G s_is_arrival s_is_departure
  have s_check_log := w_check_log (P := P) (w := w) (base := base) c X Gn G s_check_lane s_is_log_for
  have s_count_sizes := w_count_sizes (P := P) (w := w) (base := base) c X Gn G 
  obtain ⟨s_sizes, k_sizes_0⟩ := w_sizes (P := P) (w := w) (base := base) c X Gn G s_check_log s_count_sizes
  have s_car_numbers := w_car_numbers (P := P) (w := w) (base := base) c X Gn G 
  obtain ⟨s_numbers, k_numbers_0⟩ := w_numbers (P := P) (w := w) (base := base) c X Gn G s_check_log s_car_numbers
  have s_replayed := w_replayed (P := P) (w := w) (base := base) c X Gn G 
  obtain ⟨s_replay, k_replay_0⟩ := w_replay (P := P) (w := w) (base := base) c X Gn G s_check_log s_replayed s_is_side
  have s__law_source := w__law_source (P := P) (w := w) (base := base) c X Gn G 
  have s__law_draw := w__law_draw (P := P) (w := w) (base := base) c X Gn G 
  have s__law_mixed := w__law_mixed (P := P) (w := w) (base := base) c X Gn G s__law_draw
  have s__law_vehicles := w__law_vehicles (P := P) (w := w) (base := base) c X Gn G s__law_draw s__law_mixed
  have s__law_happened := w__law_happened (P := P) (w := w) (base := base) c X Gn G s__law_draw
  have s__law_rows := w__law_rows (P := P) (w := w) (base := base) c X Gn G 
  have s__law_right := w__law_right (P := P) (w := w) (base := base) c X Gn G s__law_rows s_sizes s_numbers s_replay k_sizes_0 k_numbers_0 k_replay_0
  have S : FnScope (["script", "k", "source", "turn", "fleet", "initial", "happened", "moves", "cut", "event"] : List Str) ["script"] (dd "law" 34).scope := ⟨rfl, rfl, rfl, by decide +kernel, rfl, by decide +kernel, by decide +kernel⟩
  have ok : FnG P w K mg base L2.CX0 7 (He.ga K "law") fd ["script"] (spI ⟨K, P, w⟩ fn_law) := wl_law c X Gn G F S s__law_source s__law_vehicles s__law_happened s__law_draw s__law_right
  exact fnG_law (ok.mono (by decide)) fun vs H Q E q => by
    obtain ⟨a, ns, e, hs, hl, hq⟩ := q
    exact ⟨a, ns, e, hs, pure_law ns hl, hq⟩
end Ol
open PySem PySem.W PySem.Calls PyProof.Rows
theorem PySem.Challenge.cw_openlane_k01_sizes_numbers_replay_holds : PySem.Challenge.rw_openlane_k01_sizes_numbers_replay.Holds := by
  refine Ol.j01_fin fun w mg f h Y G hm => ?_
  obtain ⟨K, KX, c⟩ := Y
  obtain ⟨fd, hb, hF⟩ := Ol.facts (P := (PySem.Challenge.rw_openlane_k01_sizes_numbers_replay).prog) (w := w) KX G hm c
  exact ⟨K, fd, Ol.spLaw K, KX, hb, fun H a ns hl _ hS => ⟨a, ns, rfl, hS, hl, fun _ => rfl⟩, fun base _ _ => hF base⟩
