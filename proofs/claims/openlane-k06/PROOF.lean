import PyProof.Rows.All
import Wide.All
import OpenK.AllK
import Wide.FinOn
import HandS.ForMost
import HandS.SetKeys
import HandS.SetFor
import HandS.TupAny
import HandS.IsInst
import HandS.Wide
import HandS.DictComp
import HandS.Strs
import HandS.More
import HandS.Conv
import HandS.Style
import HandS.Walk
import HandS.Zip
import KE.GoesEnum
import KE.KRevSl
import HandS.Dict
import KE.DataMinMax
import HandS.Exc
import HandS.Words
import HandS.Defaults
import KE.KDictZip
import PyProof.ZipIter
import PyProof.EnumIter
import PyProof.Draws
import HandS.SortInts
import HandS.HeadEnd
import HandS.List
import PyProof.ReprRoads
import PyProof.Rows.SortShellAny
import PyProof.Rows.SortStr
import PyProof.Rows.SortWalk
import KE.KStateDown
import Lean
import HandS.Head0
import HandS.Head1
import HandS.Head2
import HandS.HeadHook1
import HandS.HeadHook2
import PySem.Challenge.RW_openlane_k06_sets_by_all_histories
set_option Elab.async false
set_option linter.all false
set_option maxRecDepth 100000
set_option maxHeartbeats 4000000
/-! own: sets of keys made out of a list or a tuple; what stands in them is told by a list of distinct keys, and they can be walked -/
namespace Ol
open PySem PySem.Spec PyProof.Rows L2
section
variable {P : Program} {w : World} {κ : Type} [DecidableEq κ] {knd : PySem.KeyKind P w κ}
def memb {κ : Type} [DecidableEq κ] (ks : List κ) (k : κ) : Bool := decide (k ∈ ks)
/-- one entry of the table stands for one key -/
def Ent (knd : PySem.KeyKind P w κ) (e : Int × Value) (k : κ) : Prop := (knd.is k e.2 = true ∧ e.1 = knd.hash k) ∧ e.2.scannable = true
/-- the set at a holds the distinct keys ks -/
def Sg (knd : PySem.KeyKind P w κ) (h : Heap) (a : Addr) (ks : List κ) : Prop :=
  ∃ ob es ep t ls, h.get? a = some ob ∧ ob.ExactSet ∧ ob.data = .set es ep t ∧ Paired (Ent knd) es.toList ls ∧ ls.Perm ks ∧ ks.Nodup ∧ ks.length < scanBound ∧ t.fits es.size = true ∧
    Ris t.place.toList ∧ (w.params.followText "set-order" = true ∨ t.led = true)
theorem paired_perm {α β : Type} {F : α → β → Prop} {l l' : List α} (p : l'.Perm l) : ∀ {m : List β}, Paired F l m → ∃ m', Paired F l' m' ∧ m'.Perm m := by
  induction p with
  | nil => intro m hm; exact ⟨m, hm, .refl _⟩
  | cons x _ ih =>
    intro m hm
    cases hm with
    | cons r t =>
      obtain ⟨m', h1, h2⟩ := ih t
      exact ⟨_ :: m', .cons r h1, h2.cons _⟩
  | swap x y l =>
    intro m hm
    cases hm with
    | cons r t => cases t with
      | cons r2 t2 => exact ⟨_, .cons r2 (.cons r t2), .swap _ _ _⟩
  | trans _ _ ih1 ih2 =>
    intro m hm
    obtain ⟨m1, h1, p1⟩ := ih2 hm
    obtain ⟨m2, h2, p2⟩ := ih1 h1
    exact ⟨m2, h2, p2.trans p1⟩
theorem ent_elems {l : List (Int × Value)} {ks : List κ} (h : Paired (Ent knd) l ks) : ElemsOf knd l := by
  induction h with
  | nil => intro e he; cases he
  | cons r _ ih =>
    intro e he
    rcases List.mem_cons.mp he with rfl | he
    · exact ⟨⟨_, r.1⟩, r.2⟩
    · exact ih e he
theorem ent_mem {l : List (Int × Value)} {ks : List κ} (h : Paired (Ent knd) l ks) (k : κ) : k ∈ ks ↔ ∃ e ∈ l, knd.is k e.2 = true := by
  induction h with
  | nil => constructor <;> intro z <;> simp at z
  | cons r _ ih =>
    rename_i e1 k1 _ _ _
    rw [List.mem_cons, ih]
    constructor
    · rintro (rfl | ⟨e, he, q⟩)
      · exact ⟨_, List.mem_cons_self, r.1.1⟩
      · exact ⟨e, List.mem_cons_of_mem _ he, q⟩
    · rintro ⟨e, he, q⟩
      rcases List.mem_cons.mp he with rfl | he
      · exact .inl (knd.inj _ _ _ q r.1.1)
      · exact .inr ⟨e, he, q⟩
theorem Sg.keep {h h' : Heap} {a : Addr} {ks : List κ} (R : Sg knd h a ks) (k : ∀ o, h.get? a = some o → h'.get? a = some o) : Sg knd h' a ks := by
  obtain ⟨o, es, ep, t, ls, ho, r⟩ := R
  exact ⟨o, es, ep, t, ls, k o ho, r⟩
theorem Sg.size {h : Heap} {a : Addr} {ks : List κ} (R : Sg knd h a ks) : ∃ ob es ep t, h.get? a = some ob ∧ ob.ExactSet ∧ ob.data = .set es ep t ∧ t.fits es.size = true ∧ es.size = ks.length := by
  obtain ⟨o, es, ep, t, ls, ho, hx, hd, hp, pm, nd, hb, hf, _⟩ := R
  refine ⟨o, es, ep, t, ho, hx, hd, hf, ?_⟩
  rw [← Array.length_toList, hp.length, pm.length_eq]
theorem Sg.setOf {h : Heap} {a : Addr} {ks : List κ} (R : Sg knd h a ks) : h.SetOf knd a (memb ks) ks.length := by
  obtain ⟨o, es, ep, t, ls, ho, hx, hd, hp, pm, nd, hb, hf, _⟩ := R
  have hz : es.size = ks.length := by rw [← Array.length_toList, hp.length, pm.length_eq]
  refine ⟨o, es, ep, t, ho, hx, hd, ent_elems hp, fun k => ?_, by rw [hz]; exact hb, hf, hz⟩
  unfold memb
  rw [decide_eq_true_eq, ← pm.mem_iff]
  exact ent_mem hp k
end
section
variable {P : Program} {w : World} {κ : Type} [DecidableEq κ] {knd : PySem.KeyKind P w κ} {A : Around} {E : Value → Shared → Prop} {s : Shared} {a : Addr} {ks : List κ}
/-- the table is stored, once, or twice where it has become too full -/
theorem sg_stored {gave : Bool → Sem Unit} (hgv : ∀ (b : Bool) (s1 : Shared) (R : Unit → Shared → Prop), R () s1 → wpAny (model P w) A (gave b) R E s1)
    {ob : Obj} {es : Array (Int × Value)} {ep : Nat} {t : SetTable} (ho : s.heap.get? a = some ob) (hx : ob.ExactSet) (hd : ob.data = .set es ep t)
    {es1 : Array (Int × Value)} {t1 : SetTable} {ls : List κ} (hp : Paired (Ent knd) es1.toList ls) (pm : ls.Perm ks) (nd : ks.Nodup) (hb : ks.length < scanBound)
    (hf : t1.fits es1.size = true) (hr : Ris t1.place.toList) (hl : w.params.followText "set-order" = true ∨ t1.led = true) {dummy : Bool} {R : Option Bool → Shared → Prop}
    (q : ∀ h', Heap.SameBut a s.heap h' → Sg knd h' a ks → R (some true) { s with heap := h' }) :
    wpAny (model P w) A (do
        storeSet a es1 t1
        if (!dummy && t1.tooFull) = true then do
            gave (relayAll t1 es1 (SetTable.grown es1.size)).2.2
            storeSet a (relayAll t1 es1 (SetTable.grown es1.size)).1 (relayAll t1 es1 (SetTable.grown es1.size)).2.1
            pure (some true)
          else pure (some true)) R E s := by
  have z1 : es1.size = ks.length := by rw [← Array.length_toList, hp.length, pm.length_eq]
  refine wpAny_bind (wpAny_storeSet_of ho hd ?_ (fits_of_scanBound (by rw [z1]; exact hb)))
  have g1 := store_at (es' := es1) (t' := t1) ho hd
  have b1 := Heap.SameBut.update s.heap a (Obj.putSet es1 t1)
  split
  · obtain ⟨ls2, hp2, pm2⟩ := paired_perm (relayAll_perm t1 es1 (SetTable.grown es1.size)) hp
    have f2 := relayAll_fits t1 es1 (SetTable.grown es1.size)
    have r2 := relayAll_ris t1 es1 (SetTable.grown es1.size)
    have l2 := relayAll_led t1 es1 (SetTable.grown es1.size)
    revert hp2 f2 r2 l2
    generalize relayAll t1 es1 (SetTable.grown es1.size) = Y
    intro hp2 f2 r2 l2
    refine wpAny_bind (hgv _ _ _ ?_)
    have z2 : Y.1.size = ks.length := by rw [← Array.length_toList, hp2.length, pm2.length_eq, pm.length_eq]
    refine wpAny_bind (wpAny_storeSet_of g1 rfl ?_ (fits_of_scanBound (by rw [z2]; exact hb)))
    have g2 := store_at (es' := Y.1) (t' := Y.2.1) g1 rfl
    exact wpAny_pure (q _ (b1.trans (Heap.SameBut.update _ a _)) ⟨_, Y.1, _, Y.2.1, ls2, g2, hx, rfl, hp2, pm2.trans pm, nd, hb, f2, r2, hl.imp id fun y => by rw [l2]; exact y⟩)
  · exact wpAny_pure (q _ b1 ⟨_, es1, _, t1, ls, g1, hx, rfl, hp, pm, nd, hb, hf, hr, hl⟩)
/-- what is in behind an addition -/
def added (ks : List κ) (k : κ) : List κ := if k ∈ ks then ks else ks ++ [k]
theorem added_len (ks : List κ) (k : κ) : (added ks k).length ≤ ks.length + 1 := by
  unfold added
  split
  · omega
  · simp
theorem sg_add {k : κ} {x : Value} (hk : knd.is k x = true) (hs : x.scannable = true) {R : Bool → Shared → Prop} (S : Sg knd s.heap a ks) (room : ks.length + 1 < scanBound)
    (q : ∀ h', Heap.SameBut a s.heap h' → Sg knd h' a (added ks k) → R (!decide (k ∈ ks)) { s with heap := h' }) :
    wpAny (model P w) A (setAddHashed a x (knd.hash k)) R E s := by
  obtain ⟨ob, es, ep, t, ls, ho, hx, hd, hp, pm, nd, hb, hf, hr, hl⟩ := id S
  have z : es.size = ks.length := by rw [← Array.length_toList, hp.length, pm.length_eq]
  have el : ElemsOf knd es.toList := ent_elems hp
  unfold setAddHashed setAddHashedIn
  refine wpAny_holding (wpAny_bind (wpAny_setState_of ho hd hf ?_))
  dsimp only
  rw [byScan_of hs (by rw [z]; exact hb) el]
  simp only [↓reduceIte]
  unfold setAddByScan
  refine wpAny_bind ?_
  refine wpAny_bind (wpAny_rule (wpAny_bind (wpAny_setScan_of hk ho hd hf el ?_)))
  by_cases hin : k ∈ ks
  · obtain ⟨e, he, qe⟩ := (ent_mem hp k).mp (pm.mem_iff.mpr hin)
    cases hfi : List.findIdx? (fun e => knd.is k e.2) es.toList with
    | none => exact absurd (List.findIdx?_eq_none_iff.mp hfi e he) (by rw [qe]; simp)
    | some j =>
      refine wpAny_pure (wpAny_pure ?_)
      have y := q s.heap (Heap.SameBut.refl a s.heap) (by unfold added; rw [if_pos hin]; exact S)
      rw [decide_eq_true hin] at y
      exact y
  · have hfi : List.findIdx? (fun e => knd.is k e.2) es.toList = none := by
      rw [List.findIdx?_eq_none_iff]
      intro e he
      cases y : knd.is k e.2 with
      | false => rfl
      | true => exact absurd (pm.mem_iff.mp ((ent_mem hp k).mpr ⟨e, he, y⟩)) hin
    rw [hfi]
    dsimp only
    have y := q
    rw [decide_eq_false hin] at y
    have ea : added ks k = ks ++ [k] := by unfold added; rw [if_neg hin]
    rw [ea] at y
    have nd' : (ks ++ [k]).Nodup := by
      rw [List.nodup_append]
      refine ⟨nd, by simp, fun u hu v hv => ?_⟩
      rw [List.mem_singleton] at hv
      intro e
      subst hv
      exact hin (e ▸ hu)
    have hb' : (ks ++ [k]).length < scanBound := by rw [List.length_append]; exact room
    have gw : ∀ (b : Bool) {s1 : Shared} {R' : Unit → Shared → Prop}, R' () s1 → wpAny (model P w) A (match b with | true => rule "set.scan.the-table-gave-way" | false => pure ()) R' E s1 :=
      fun b _ _ z => by cases b <;> first | exact wpAny_pure z | exact wpAny_rule z
    obtain ⟨ls1, hp1, pm1⟩ := paired_perm (F := Ent knd) (layNew_perm t es (knd.hash k) x) (m := ls ++ [k]) (by
      rw [Array.toList_push]
      have app : ∀ {l : List (Int × Value)} {m : List κ}, Paired (Ent knd) l m → Paired (Ent knd) (l ++ [(knd.hash k, x)]) (m ++ [k]) := fun h => by
        induction h with
        | nil => exact .cons ⟨⟨hk, rfl⟩, hs⟩ .nil
        | cons r _ ih => exact .cons r ih
      exact app hp)
    have f1 := layNew_fits t es (knd.hash k) x
    have r1 := layNew_ris t es (knd.hash k) x hr
    have l1 := layNew_led t es (knd.hash k) x
    revert hp1 f1 r1 l1
    generalize layNew t es (knd.hash k) x = Y
    obtain ⟨es1, t1, dummy, gv⟩ := Y
    intro hp1 f1 r1 l1
    dsimp only at hp1 f1 r1 l1 ⊢
    have pm2 : ls1.Perm (ks ++ [k]) := pm1.trans (pm.append_right _)
    have led1 : w.params.followText "set-order" = true ∨ t1.led = true := hl.imp id fun c => by rw [l1]; exact c
    refine wpAny_bind (gw _ ?_)
    split
    · refine wpAny_bind ?_
      rw [hashByValue_scannable 8 hs]
      refine wpAny_pure ?_
      refine sg_stored (hgv := ?g1) ho hx hd hp1 pm2 nd' hb' ?f1 ?r1 ?l1 fun h' sb R' => ?_
      case g1 => intro b s1 R' c; cases b <;> first | exact wpAny_pure c | exact wpAny_rule c
      case f1 => first | (split <;> first | exact f1 | exact SetTable.fits_plain_off f1) | exact f1
      case r1 => first | (split <;> exact r1) | exact r1
      case l1 => first | (split <;> exact led1) | exact led1
      dsimp only
      exact wpAny_pure (y h' sb R')
    · refine wpAny_bind (wpAny_pure ?_)
      simp only [↓reduceIte]
      refine sg_stored (hgv := ?g1) ho hx hd hp1 pm2 nd' hb' f1 r1 led1 fun h' sb R' => ?_
      case g1 => intro b s1 R' c; cases b <;> first | exact wpAny_pure c | exact wpAny_rule c
      dsimp only
      exact wpAny_pure (y h' sb R')
/-- the distinct ones, in order of their first place -/
def dist (ks : List κ) : List κ := ks.foldl added []
theorem dist_snoc (ks : List κ) (k : κ) : dist (ks ++ [k]) = added (dist ks) k := by unfold dist; rw [List.foldl_append]; rfl
theorem dist_len_aux : ∀ (ks acc : List κ), (ks.foldl added acc).length ≤ acc.length + ks.length
  | [], acc => by simp
  | k :: ks, acc => by
    have h := dist_len_aux ks (added acc k)
    have h2 := added_len acc k
    rw [List.foldl_cons, List.length_cons]
    omega
theorem dist_len (ks : List κ) : (dist ks).length ≤ ks.length := by
  have h := dist_len_aux ks []
  simpa [dist] using h
theorem mem_added {ks : List κ} {k j : κ} : j ∈ added ks k ↔ j ∈ ks ∨ j = k := by
  unfold added
  split
  · rename_i h
    exact ⟨.inl, fun z => z.elim id fun e => e ▸ h⟩
  · rw [List.mem_append, List.mem_singleton]
theorem mem_dist_aux : ∀ (ks acc : List κ) (j : κ), j ∈ ks.foldl added acc ↔ j ∈ acc ∨ j ∈ ks
  | [], acc, j => by simp
  | k :: ks, acc, j => by
    rw [List.foldl_cons, mem_dist_aux ks, mem_added, List.mem_cons, or_assoc]
theorem mem_dist {ks : List κ} {j : κ} : j ∈ dist ks ↔ j ∈ ks := by
  unfold dist
  rw [mem_dist_aux]
  simp
theorem nodup_added {ks : List κ} {k : κ} (h : ks.Nodup) : (added ks k).Nodup := by
  unfold added
  split
  · exact h
  · rename_i hn
    rw [List.nodup_append]
    refine ⟨h, by simp, fun u hu v hv => ?_⟩
    rw [List.mem_singleton] at hv
    intro e
    subst hv
    exact hn (e ▸ hu)
theorem nodup_dist_aux : ∀ (ks acc : List κ), acc.Nodup → (ks.foldl added acc).Nodup
  | [], _, h => h
  | _ :: ks, _, h => nodup_dist_aux ks _ (nodup_added h)
theorem nodup_dist (ks : List κ) : (dist ks).Nodup := nodup_dist_aux ks [] List.nodup_nil
theorem dist_nodup_aux : ∀ (ks acc : List κ), (acc ++ ks).Nodup → ks.foldl added acc = acc ++ ks
  | [], acc, _ => by simp
  | k :: ks, acc, h => by
    have hk : k ∉ acc := fun z => by
      rw [List.nodup_append] at h
      exact h.2.2 k z k List.mem_cons_self rfl
    have e : added acc k = acc ++ [k] := by unfold added; rw [if_neg hk]
    rw [List.foldl_cons, e, dist_nodup_aux ks]
    · simp
    · simpa using h
theorem dist_of_nodup {ks : List κ} (h : ks.Nodup) : dist ks = ks := by
  have e := dist_nodup_aux ks [] (by simpa using h)
  simpa [dist] using e
theorem dist_len_eq_aux : ∀ (ks acc : List κ), acc.Nodup → (ks.foldl added acc).length = acc.length + ks.length → (acc ++ ks).Nodup
  | [], acc, h, _ => by simpa using h
  | k :: ks, acc, h, e => by
    rw [List.foldl_cons] at e
    have h1 := dist_len_aux ks (added acc k)
    have h2 := added_len acc k
    rw [List.length_cons] at e
    have h3 : (added acc k).length = acc.length + 1 := by omega
    have hk : k ∉ acc := fun z => by
      unfold added at h3
      rw [if_pos z] at h3
      omega
    have e1 : added acc k = acc ++ [k] := by unfold added; rw [if_neg hk]
    have h4 := dist_len_eq_aux ks (added acc k) (nodup_added h) (by omega)
    rw [e1] at h4
    simpa using h4
theorem dist_len_eq {ks : List κ} : (dist ks).length = ks.length ↔ ks.Nodup := by
  constructor
  · intro h
    have z := dist_len_eq_aux ks [] List.nodup_nil (by simpa [dist] using h)
    simpa using z
  · intro h
    rw [dist_of_nodup h]
end
end Ol
set_option Elab.async false
set_option linter.all false
set_option maxRecDepth 100000
set_option maxHeartbeats 4000000
/-! own: set(xs) of a list or tuple of keys -/
namespace Ol
open PySem PySem.Spec PyProof.Rows L2
section
variable {P : Program} {w : World} {κ : Type} [DecidableEq κ] {knd : PySem.KeyKind P w κ} {A : Around} {E : Value → Shared → Prop} {s : Shared}
theorem sg_loop {it : Addr} {fp wr : List Addr} {G : Array GenState → Array GenState → Prop} {n : Nat} {Pv : Nat → Value → Prop} {St : Nat → Shared → Prop} {R : Result → Shared → Prop}
    (W : WalksS P w A.in1 it fp wr G n Pv St) (a : Addr) (ha : a ∉ fp) (ks : List κ) (hn : n = ks.length) (hb : ks.length + 1 < scanBound)
    (hv : ∀ i v, Pv i v → ∃ k, ks[i]? = some k ∧ knd.is k v = true ∧ v.scannable = true) (m : Nat) :
    ∀ (i : Nat) (s : Shared), n - i = m → i ≤ n → St i s → Sg knd s.heap a (dist (ks.take i)) →
      (∀ s', Moved (a :: wr) G s s' → Sg knd s'.heap a (dist ks) → R (.ok (.ret .none)) s') →
      codeAny (model P w) A (.builtin "set.update.loop" ⟨[.ref a, .ref it], []⟩) R s := by
  have haw : a ∉ wr := fun z => ha (W.sub _ z)
  have sub : ∀ b ∈ wr, b ∈ a :: wr := fun b z => List.mem_cons_of_mem _ z
  induction m with
  | zero =>
    intro i s hm hi st S q
    have ei : ks.take i = ks := List.take_of_length_le (by omega)
    have ein : i = n := by omega
    rw [ei] at S
    subst ein
    refine codeAny_builtin F.entry_set_update_loop ?_
    rw [Around.under_plainId F.plain_set_update_loop _]
    refine wpAny_bind (m := pyNext (.ref it)) (W.done s _ _ st fun s' mv => ?_)
    exact wpAny_pure (q s' (mv.mono sub) (S.keep fun o e => mv.heap a o haw e))
  | succ m ih =>
    intro i s hm hi st S q
    have hlt : i < n := by omega
    refine codeAny_builtin F.entry_set_update_loop ?_
    rw [Around.under_plainId F.plain_set_update_loop _]
    refine wpAny_bind (m := pyNext (.ref it)) (W.item i s _ _ hlt st fun v s' hP st' mv => ?_)
    obtain ⟨k, hk, isk, sck⟩ := hv i v hP
    have S1 : Sg knd s'.heap a (dist (ks.take i)) := S.keep fun o e => mv.heap a o haw e
    have hl : (dist (ks.take i)).length ≤ i := Nat.le_trans (dist_len _) (by rw [List.length_take]; omega)
    refine wpAny_bind (m := holding [v] (setAdd a v)) (wpAny_holding ?_)
    unfold setAdd
    refine wpAny_holding (wpAny_bind (knd.pyHash (k := k) isk ?_))
    refine sg_add (s := { s' with toks := s'.toks + 1 }) isk sck S1 (by omega) fun h' sb S2 => ?_
    have e2 : added (dist (ks.take i)) k = dist (ks.take (i + 1)) := by
      rw [List.take_add_one, hk, ← dist_snoc]
      rfl
    rw [e2] at S2
    refine wpAny_pure ⟨plainId_quiet F.plain_set_update_loop _, ih (i + 1) _ (by omega) hlt (W.frame _ s' _ _ st' (Nat.le_succ _) fun b hb o e => ?_) S2 fun s2 mv2 S3 => ?_⟩
    · rw [sb.2 b (fun z => ha (z ▸ hb))]; exact e
    · refine q s2 (Moved.trans W.gtrans ((mv.mono sub).then_heap (Nat.le_succ _) fun b o hb e => ?_) mv2) S3
      rw [sb.2 b (fun z => hb (z ▸ List.mem_cons_self))]; exact e
/-- an empty set as it is made -/
def freshSet (w : World) : Obj := { cls := .type "set", dict := none, data := .set #[] 0 (.fresh 0 0 (!w.params.followText "set-order")) }
theorem sg_fresh {h : Heap} {a : Addr} (e : h.get? a = some (freshSet w)) : Sg knd h a [] :=
  ⟨_, #[], 0, _, [], e, ⟨rfl, rfl, rfl⟩, rfl, .nil, .refl _, List.nodup_nil, (by show (0 : Nat) < scanBound; decide), by rfl, List.Pairwise.nil, by
    cases w.params.followText "set-order"
    · exact .inr rfl
    · exact .inl rfl⟩
/-- what set(x) comes to, x a list or a tuple of keys -/
def SetEnd (knd : PySem.KeyKind P w κ) (s : Shared) (ks : List κ) (Q : Value → Shared → Prop) : Prop :=
  ∀ (h' : Heap) (tk : Nat), Sg knd h' s.heap.objs.size (dist ks) → (∀ b o, s.heap.get? b = some o → h'.get? b = some o) → Q (.ref s.heap.objs.size) { s with heap := h', toks := tk }
/-- what the rest of a call wants of a built-in's tree -/
abbrev FinOf (P : Program) (w : World) (A : Around) (R : Result → Shared → Prop) : Fin → Shared → Prop := fun fin s' => match fin with
  | .done f => R (.ok f) s'
  | .again c' => c'.quiet = true ∧ codeAny (model P w) A c' R s'
set_option maxHeartbeats 4000000 in
theorem set_call {v : Value} {Q : Value → Shared → Prop} {G : Heap → Nat → Prop}
    (hin : ∀ R : Result → Shared → Prop, (∀ h' tk, G h' tk → R (.ok (.ret .none)) { s with heap := h', toks := tk }) →
      wpAny (model P w) A.in1.in1 (Builtin.«set.__init__» ⟨[.ref s.heap.objs.size, v], []⟩) (FinOf P w A.in1 R) (fun e s' => R (.error e) s') { s with heap := s.heap.push (freshSet w) })
    (q : ∀ h' tk, G h' tk → Q (.ref s.heap.objs.size) { s with heap := h', toks := tk }) :
    wpAny (model P w) A (call (.type "set") [v]) Q E s := by
  obtain ⟨c, tl, k1⟩ := PySem.F.called_set.mro
  have k2 := PySem.F.called_set.made
  have k3 := PySem.F.called_set.sub
  have k4 := PySem.F.called_set.notType
  have k5 := PySem.F.called_set.canCreate
  have k6 := PySem.F.typeCall_set_1 v
  have at0 : (s.heap.push (freshSet w)).get? s.heap.objs.size = some (freshSet w) := Heap.get?_push_size _ rfl
  have ty0 : Shared.TypeIs { s with heap := s.heap.push (freshSet w) } (.ref s.heap.objs.size) "set" := ⟨_, at0, rfl⟩
  refine wpAny_call (codeAny_of_tree (show wpAny _ _ (callAny (.type "set") _) _ _ _ from wpAny_pure ⟨Code.quiet_builtin _ (by decide +kernel), codeAny_builtin PySem.F.entry_type_call ?_⟩))
  rw [Around.under_plain (weight_type_call_type "set" [v] []) rfl]
  repeat (any_goals (first | assumption | wp_step))
  refine codeAny_mono (code_set_led1 v (E := E) (Q₁ := fun ob s1 => ob = .ref s.heap.objs.size ∧ s1 = { s with heap := s.heap.push (freshSet w) }) ⟨rfl, rfl⟩) fun r s1 hr => ?_
  cases r with
  | error e => exact hr
  | ok fl =>
    cases fl with
    | ret ob =>
      obtain ⟨rfl, rfl⟩ := hr
      have k7 := PySem.F.called_set.init.lookup
      have k8 := PySem.F.called_set.init.bind (.ref s.heap.objs.size)
      repeat (any_goals (first | assumption | wp_step))
      refine codeAny_mono (codeAny_call_builtin (R := wants (fun r s2 => r = .none ∧ ∃ h' tk, s2 = { s with heap := h', toks := tk } ∧ G h' tk) E)
        PySem.F.called_set.init.plain PySem.F.entry_set_init (check_set_init_1 ty0 ?_)) fun r2 s2 hr2 => ?_
      · exact hin (wants (fun r s2 => r = .none ∧ ∃ h' tk, s2 = { s with heap := h', toks := tk } ∧ G h' tk) E) fun h' tk g => ⟨rfl, h', tk, rfl, g⟩
      · cases r2 with
        | error e => exact hr2
        | ok fl2 =>
          cases fl2 with
          | ret r =>
            obtain ⟨rfl, h', tk, rfl, g⟩ := hr2
            repeat (any_goals (first | assumption | wp_step))
            exact q _ _ g
          | _ => exact hr2.elim
    | _ => exact hr.elim
theorem set_of_tuple {l : Addr} {items : Array Value} (ks : List κ) {Q : Value → Shared → Prop} (hh : A.handled = none) (hl : s.heap.IsTuple l items) (hz : items.size = ks.length) (hb : ks.length + 1 < scanBound)
    (hv : ∀ (i : Nat) v, items[i]? = some v → ∃ k, ks[i]? = some k ∧ knd.is k v = true ∧ v.scannable = true) (q : SetEnd knd s ks Q) :
    wpAny (model P w) A (call (.type "set") [.ref l]) Q E s := by
  refine set_call (G := fun h' _ => Sg knd h' s.heap.objs.size (dist ks) ∧ ∀ b o, s.heap.get? b = some o → h'.get? b = some o) (fun R hR => ?_) fun h' tk g => q h' tk g.1 g.2
  have old : ∀ b o, s.heap.get? b = some o → (s.heap.push (freshSet w)).get? b = some o := fun b o e => Heap.get?_push_of_some _ e
  have at0 : (s.heap.push (freshSet w)).get? s.heap.objs.size = some (freshSet w) := Heap.get?_push_size _ rfl
  have l0 : (s.heap.push (freshSet w)).IsTuple l items := let ⟨o, e, r⟩ := hl; ⟨o, old _ _ e, r⟩
  have lt : l < s.heap.objs.size := let ⟨o, e, r⟩ := hl; Heap.lt_size e
  obtain ⟨ol, hol, hcl, nl, hdl⟩ := id l0
  obtain ⟨ocls, odict, odata, oslots⟩ := ol
  simp only at hcl hdl
  subst hcl
  subst hdl
  have j1 := PySem.F.sub_tuple_set
  have j2 := PySem.F.sub_tuple_frozenset
  have j3 : (Value.type "tuple" == Value.type "dict") = false := by decide
  unfold Builtin.«set.__init__» noKeywords Builtin.Frozenset.updateFrom
  generalize hI : pyIter = it0
  wp_walk
  subst hI
  refine wpAny_pyIter_tuple l0 (wpAny_bind (wpAny_runValue ?_))
  have n1 : (s.heap.push (freshSet w)).objs.size = s.heap.objs.size + 1 := Heap.size_push ..
  have n2 : l ≠ (s.heap.push (freshSet w)).objs.size := by rw [n1]; exact Nat.ne_of_lt (Nat.lt_succ_of_lt lt)
  have n3 : s.heap.objs.size ∉ [(s.heap.push (freshSet w)).objs.size, l] := fun z => by
    rcases List.mem_cons.mp z with z | z
    · rw [n1] at z; exact absurd z (Nat.ne_of_lt (Nat.lt_succ_self _))
    · exact absurd (List.mem_singleton.mp z) (Nat.ne_of_gt lt)
  refine sg_loop (knd := knd) ((Walks.tuple (show A.in1.in1.in1.handled = none from hh) _ l n2 items).toS) s.heap.objs.size n3 ks hz hb hv (items.size - 0) 0 _ (by omega) (Nat.zero_le _)
    ⟨⟨_, Heap.get?_push_size _ rfl, rfl, rfl⟩, l0.push _⟩ ?_ fun s' mv S => ?_
  · exact sg_fresh (Heap.get?_push_of_some _ at0)
  · obtain ⟨h', g', d', t', os'⟩ := s'
    have e1 : g' = s.gens := mv.gens
    have e2 : d' = s.drawn := mv.drawn
    have e3 : os' = s.os := mv.os
    subst e1; subst e2; subst e3
    refine wpAny_pure ?_
    show wpAny _ _ (ret Value.none) _ _ _
    refine wpAny_pure (hR h' t' ⟨S, fun b o e => ?_⟩)
    have lb : b < s.heap.objs.size := Heap.lt_size e
    refine mv.heap b o (fun z => ?_) (Heap.get?_push_of_some _ (old _ _ e))
    rcases List.mem_cons.mp z with z | z
    · exact absurd z (Nat.ne_of_lt lb)
    · have z2 := List.mem_singleton.mp z
      rw [n1] at z2
      exact absurd lb (by rw [z2]; exact Nat.not_lt_of_le (Nat.le_succ _))
theorem set_of_list {l : Addr} {items : Array Value} (ks : List κ) {Q : Value → Shared → Prop} (hh : A.handled = none) (hl : s.heap.IsList l items) (hz : items.size = ks.length) (hb : ks.length + 1 < scanBound)
    (hv : ∀ (i : Nat) v, items[i]? = some v → ∃ k, ks[i]? = some k ∧ knd.is k v = true ∧ v.scannable = true) (q : SetEnd knd s ks Q) :
    wpAny (model P w) A (call (.type "set") [.ref l]) Q E s := by
  refine set_call (G := fun h' _ => Sg knd h' s.heap.objs.size (dist ks) ∧ ∀ b o, s.heap.get? b = some o → h'.get? b = some o) (fun R hR => ?_) fun h' tk g => q h' tk g.1 g.2
  have old : ∀ b o, s.heap.get? b = some o → (s.heap.push (freshSet w)).get? b = some o := fun b o e => Heap.get?_push_of_some _ e
  have at0 : (s.heap.push (freshSet w)).get? s.heap.objs.size = some (freshSet w) := Heap.get?_push_size _ rfl
  have l0 : (s.heap.push (freshSet w)).IsList l items := let ⟨o, e, r⟩ := hl; ⟨o, old _ _ e, r⟩
  have lt : l < s.heap.objs.size := let ⟨o, e, r⟩ := hl; Heap.lt_size e
  obtain ⟨ol, hol, hcl, nl, hdl⟩ := id l0
  obtain ⟨ocls, odict, odata, oslots⟩ := ol
  simp only at hcl hdl
  subst hcl
  subst hdl
  have j1 := PySem.F.sub_list_set
  have j2 := PySem.F.sub_list_frozenset
  have j3 : (Value.type "list" == Value.type "dict") = false := by decide
  unfold Builtin.«set.__init__» noKeywords Builtin.Frozenset.updateFrom
  generalize hI : pyIter = it0
  wp_walk
  subst hI
  refine wpAny_pyIter_list l0 (wpAny_bind (wpAny_runValue ?_))
  have n1 : (s.heap.push (freshSet w)).objs.size = s.heap.objs.size + 1 := Heap.size_push ..
  have n2 : l ≠ (s.heap.push (freshSet w)).objs.size := by rw [n1]; exact Nat.ne_of_lt (Nat.lt_succ_of_lt lt)
  have n3 : s.heap.objs.size ∉ [(s.heap.push (freshSet w)).objs.size, l] := fun z => by
    rcases List.mem_cons.mp z with z | z
    · rw [n1] at z; exact absurd z (Nat.ne_of_lt (Nat.lt_succ_self _))
    · exact absurd (List.mem_singleton.mp z) (Nat.ne_of_gt lt)
  refine sg_loop (knd := knd) ((Walks.list (show A.in1.in1.in1.handled = none from hh) _ l n2 items).toS) s.heap.objs.size n3 ks hz hb hv (items.size - 0) 0 _ (by omega) (Nat.zero_le _)
    ⟨⟨_, Heap.get?_push_size _ rfl, rfl, rfl⟩, l0.push _⟩ ?_ fun s' mv S => ?_
  · exact sg_fresh (Heap.get?_push_of_some _ at0)
  · obtain ⟨h', g', d', t', os'⟩ := s'
    have e1 : g' = s.gens := mv.gens
    have e2 : d' = s.drawn := mv.drawn
    have e3 : os' = s.os := mv.os
    subst e1; subst e2; subst e3
    refine wpAny_pure ?_
    show wpAny _ _ (ret Value.none) _ _ _
    refine wpAny_pure (hR h' t' ⟨S, fun b o e => ?_⟩)
    have lb : b < s.heap.objs.size := Heap.lt_size e
    refine mv.heap b o (fun z => ?_) (Heap.get?_push_of_some _ (old _ _ e))
    rcases List.mem_cons.mp z with z | z
    · exact absurd z (Nat.ne_of_lt lb)
    · have z2 := List.mem_singleton.mp z
      rw [n1] at z2
      exact absurd lb (by rw [z2]; exact Nat.not_lt_of_le (Nat.le_succ _))
end
end Ol
set_option Elab.async false
set_option linter.all false
set_option maxRecDepth 100000
set_option maxHeartbeats 4000000
/-! own: set(xs), len(set), sorted(set of texts) over the layer -/
namespace Ol
open PySem PySem.Spec PyProof.Rows L2
/-- a set of keys that can be walked -/
def SetQ (P : Program) (w : World) (a : Addr) (ks : List Key) : HO := .ext fun h => Sg (mixKind P w) h a ks
theorem setQ_ok {P : Program} {w : World} {H : Hp} {h : Heap} {a : Addr} {ks : List Key} (R : Sg (mixKind P w) h a ks) : ObjOk P w H h a (SetQ P w a ks) := by
  obtain ⟨ob, es, ep, t, ls, ho, r⟩ := id R
  exact ⟨R, ⟨ob, ho⟩, fun h1 h2 p k => Sg.keep p k⟩
theorem paired_flip {α β : Type} {F : α → β → Prop} : ∀ {l : List α} {m : List β}, Paired F l m → Paired (fun b a => F a b) m l
  | _, _, .nil => .nil
  | _, _, .cons r t => .cons r (paired_flip t)
theorem paired_perm2 {α β : Type} {F : α → β → Prop} {m m' : List β} (p : m'.Perm m) {l : List α} (h : Paired F l m) : ∃ l', Paired F l' m' ∧ l'.Perm l := by
  obtain ⟨l', h1, h2⟩ := paired_perm p (paired_flip h)
  exact ⟨l', paired_flip h1, h2⟩
section
variable {X : Cx}
theorem vals_keys : ∀ {ks : List Key} {us : List Value}, Vals (ks.map kV) us → ∀ (i : Nat) v, us[i]? = some v → ∃ k, ks[i]? = some k ∧ RelV (kV k) v
  | [], _, .nil, i, v, e => by simp at e
  | k :: ks, _, .cons r t, 0, v, e => by
    have e2 : _ = v := Option.some.inj (by simpa using e)
    exact ⟨k, rfl, e2 ▸ r⟩
  | k :: ks, _, .cons r t, i + 1, v, e => by
    obtain ⟨k2, h1, h2⟩ := vals_keys t i v (by simpa using e)
    exact ⟨k2, by simpa using h1, h2⟩
/-- set(x) of a list or a tuple of keys: as what can be asked and grown | as what can be walked -/
def rSetK (K : PySem.W.Frag) (P : Program) (w : World) : List V → Hp → VK → Prop := fun xs H Q => ∃ (p : Addr) (ks : List Key), xs = [.ref p] ∧ (SqL K H p (ks.map kV) ∨ SqT K H p (ks.map kV)) ∧ ks.length + 1 < scanBound ∧
  ((∀ q, H q = none → Q (.ref q) (upd H q (SetK P w q (memb ks) (dist ks).length))) ∨ (∀ q, H q = none → Q (.ref q) (upd H q (SetQ P w q (dist ks)))))
theorem cr_setK (hc : X.calm = true) : CallR X (.type "set") (rSetK X.K X.prog X.w) := by
  intro pins s σ H xs us Q I r h
  obtain ⟨p, ks, rfl, hs, hb, q⟩ := h
  rw [Vals.ref1 r]
  have fin : SetEnd (mixKind X.prog X.w) s ks (EP X pins σ Q) := fun h' tk S kp => by
    have hn := I.hok.fresh (Nat.le_refl s.heap.objs.size)
    rcases q with q | q
    · refine ⟨.ref _, _, I.laid (t' := tk) kp (Nat.le_refl _) (setK_new ?_), rfl, q _ hn⟩
      have e : memb ks = memb (dist ks) := funext fun k => decide_eq_decide.mpr mem_dist.symm
      rw [e]
      exact S.setOf
    · exact ⟨.ref _, _, I.laid (t' := tk) kp (Nat.le_refl _) (setQ_ok S), rfl, q _ hn⟩
  have hv : ∀ {its : List Value}, Vals (ks.map kV) its → ∀ (i : Nat) v, its.toArray[i]? = some v → ∃ k, ks[i]? = some k ∧ (mixKind X.prog X.w).is k v = true ∧ v.scannable = true := fun rv i v e => by
    obtain ⟨k, h1, h2⟩ := vals_keys rv i v (by simpa using e)
    exact ⟨k, h1, kV_is h2, key_scan h2⟩
  rcases hs with hs | hs
  · obtain ⟨its, rv, hl, _⟩ := I.list hs
    have hz := rv.length
    rw [List.length_map] at hz
    exact set_of_list ks (I.ok.hd hc) hl.isList (by rw [List.size_toArray]; exact hz.symm) hb (hv rv) fin
  · obtain ⟨its, rv, hl, _⟩ := I.tuple hs
    have hz := rv.length
    rw [List.length_map] at hz
    exact set_of_tuple ks (I.ok.hd hc) hl (by rw [List.size_toArray]; exact hz.symm) hb (hv rv) fin
/-- len of a set of keys -/
def rLenSet (P : Program) (w : World) : List V → Hp → VK → Prop := fun xs H Q => ∃ p S n, xs = [.ref p] ∧ H p = some (SetK P w p S n) ∧ Q (.int (n : Nat)) H
theorem call_lenSet : CallR X (.builtin "len") (rLenSet X.prog X.w) := by
  intro pins s σ H xs us Q I r h
  obtain ⟨p, S, n, rfl, ha, q⟩ := h
  rw [Vals.ref1 r]
  obtain ⟨ob, es, ep, t, ho, hx, hd, _, _, hb, hf, hn⟩ := setK_get I ha
  subst hn
  have hb1 : es.size < 4096 := hb
  exact call_len_set ho hx hd hf (by omega) ⟨.int (es.size : Nat), H, I.tok _, ⟨_, rfl⟩, q⟩
/-- sorted(s) of texts, fewer than 64 -/
def rSortedQ (P : Program) (w : World) : List V → Hp → VK → Prop := fun xs H Q => ∃ (p : Addr) (zs : List Str), xs = [.ref p] ∧ H p = some (SetQ P w p (zs.map Sum.inr)) ∧ zs.length < 64 ∧
  ∀ (ys : List Str) (q : Addr), ys.Perm zs → sortedS ys = true → H q = none → Q (.ref q) (upd H q (.lst (ys.map V.str)))
theorem strs_of_ents {P : Program} {w : World} : ∀ {es : List (Int × Value)} {zs : List Str}, Paired (Ent (mixKind P w)) es (zs.map Sum.inr) → StrsAre (es.map (·.2)) zs
  | _, [], .nil => .nil
  | _, z :: zs, .cons r t => by
    obtain ⟨tk, e⟩ := Value.isStrOf_shape (x := z) (v := _) r.1.1
    rw [List.map_cons, e]
    exact .cons z tk (strs_of_ents t)
theorem strs_perm {l l' : List Value} (p : l'.Perm l) : ∀ {zs : List Str}, StrsAre l zs → ∃ zs', StrsAre l' zs' ∧ zs'.Perm zs := by
  induction p with
  | nil => intro zs h; exact ⟨zs, h, .refl _⟩
  | cons x _ ih =>
    intro zs h
    cases h with
    | cons n t r =>
      obtain ⟨m, h1, h2⟩ := ih r
      exact ⟨n :: m, .cons n t h1, h2.cons _⟩
  | swap x y l =>
    intro zs h
    cases h with
    | cons n t r => cases r with
      | cons n2 t2 r2 => exact ⟨n2 :: n :: _, .cons n2 t2 (.cons n t r2), .swap _ _ _⟩
  | trans _ _ ih1 ih2 =>
    intro zs h
    obtain ⟨m1, h1, p1⟩ := ih2 h
    obtain ⟨m2, h2, p2⟩ := ih1 h1
    exact ⟨m2, h2, p2.trans p1⟩
theorem cr_sortedQ (hc : X.calm = true) : CallR X (.builtin "sorted") (rSortedQ X.prog X.w) := by
  intro pins s σ H xs us Q I r h
  obtain ⟨p, zs, rfl, ha, h64, q⟩ := h
  rw [Vals.ref1 r]
  obtain ⟨ob, es, ep, t, ls, ho, hx, hd, hp, pm, nd, hb, hf, hr, hl⟩ := (I.hok p _ ha).1
  have hz : es.size = zs.length := by rw [← Array.length_toList, hp.length, pm.length_eq, List.length_map]
  refine Calls.call_function_entry kind_sorted plain_sorted entry_sorted (args_sorted1 _) ?_
  unfold Builtin.«sorted»
  refine wpAny_bind (m := checkCount "sorted" 1 1 _) (wpAny_pure ?_)
  refine wpAny_bind (collect_set (A := X.A.in1) (I.ok.hd hc) ⟨ob, ho, hx.1, hd⟩ hf (by rw [hz]; simpa using hb) hr hl fun s1 vs k1 z1 g1 o1 pv => ?_)
  -- the values gathered are texts
  have hS : ∃ ws, StrsAre vs ws ∧ ws.Perm zs := by
    obtain ⟨es', hpe, hpp⟩ := paired_perm2 pm.symm hp
    exact strs_perm (pv.trans (hpp.symm.map (·.2))) (strs_of_ents hpe)
  obtain ⟨ws, hS, hw⟩ := hS
  have hvl : vs.length = zs.length := by rw [hS.length, hw.length_eq]
  refine wpAny_bind (wpAny_newList ?_ (by rw [hvl, sizeLine_eq]; omega))
  have at1 : (s1.heap.push (seqObj "list" vs.toArray 0)).get? s1.heap.objs.size = some (seqObj "list" vs.toArray 0) := Heap.get?_push_size _ rfl
  refine wpAny_bind (wpAny_holding (wpAny_call_entry PyProof.Rows.slot_list_sort ⟨_, at1, rfl⟩ PyProof.Rows.entry_list_sort
    (list_sort_treeK strKind_oneLt at1 hS.keysOf (fun v1 v2 rest e => keyKind_strs (by rw [← e]; exact hS)) (by rw [hvl]; exact h64) fun st' sp so => ⟨_, rfl, ?_⟩)
    (PyProof.Rows.args_list_sort _)))
  obtain ⟨ys, y1, y2, y3⟩ := sorted_out_str hS sp so
  obtain ⟨n', at2⟩ := PyProof.Rows.sortedHeap_at (vs := vs) (out := (arrOf st').map (·.2)) at1
  have pz : ys.Perm zs := y2.trans hw
  have hle : (ys.map V.str).length ≤ sizeLine := by rw [List.length_map, pz.length_eq]; exact small64 h64
  have old : ∀ b o, s.heap.get? b = some o → (sortedHeap (s1.heap.push (seqObj "list" vs.toArray 0)) s1.heap.objs.size vs ((arrOf st').map (·.2))).get? b = some o := fun b o e => by
    have e1 := k1 b o e
    have lt := Heap.lt_size e1
    rw [sortedHeap_old (Nat.ne_of_lt lt) (by rw [size_push']; exact Nat.lt_succ_of_lt lt)]
    exact Heap.get?_push_of_some _ e1
  have hn : H s1.heap.objs.size = none := I.hok.fresh z1
  have new : ObjOk X.prog X.w (upd H s1.heap.objs.size (.lst (ys.map V.str))) (sortedHeap (s1.heap.push (seqObj "list" vs.toArray 0)) s1.heap.objs.size vs ((arrOf st').map (·.2))) s1.heap.objs.size (.lst (ys.map V.str)) :=
    ⟨hle, ((arrOf st').map (·.2)).toList, n', vals_of_strs y1, by rw [Array.toArray_toList]; exact at2⟩
  refine wpAny_pure ⟨_, rfl, .ref s1.heap.objs.size, upd H s1.heap.objs.size (.lst (ys.map V.str)), ?_, rfl, q ys _ pz y3 hn⟩
  have J : Inv X pins σ (upd H s1.heap.objs.size (.lst (ys.map V.str))) { s with heap := sortedHeap (s1.heap.push (seqObj "list" vs.toArray 0)) s1.heap.objs.size vs ((arrOf st').map (·.2)), gens := s1.gens, drawn := s1.drawn, toks := s1.toks } :=
    I.call (ch := []) (Un.laid old z1 hn) (I.hok.laid old z1 new) (by rw [g1]; exact I.bare) (fun _ z => nomatch z)
  have e : ({ s1 with heap := sortedHeap (s1.heap.push (seqObj "list" vs.toArray 0)) s1.heap.objs.size vs ((arrOf st').map (·.2)) } : Shared) = { s with heap := sortedHeap (s1.heap.push (seqObj "list" vs.toArray 0)) s1.heap.objs.size vs ((arrOf st').map (·.2)), gens := s1.gens, drawn := s1.drawn, toks := s1.toks } := by
    rw [← o1]
  rw [e]
  exact J
end
end Ol
set_option Elab.async false
set_option linter.all false
set_option maxRecDepth 100000
set_option maxHeartbeats 4000000
/-! own: rules that serve several kinds at once, powers of great ints, enumerate of a tuple -/
namespace Ol
open PySem PySem.Spec PyProof.Rows L2
section
variable {X : Cx}
theorem OpR.or {f : Value → Value → Sem Value} {r r' : R2} (h : OpR X f r) (h' : OpR X f r') : OpR X f (fun x y H Q => r x y H Q ∨ r' x y H Q) := fun pins s σ H x y v u Q I rx ry q =>
  q.elim (h pins s σ H x y v u Q I rx ry) (h' pins s σ H x y v u Q I rx ry)
theorem CallR.or {c : Value} {r r' : List V → Hp → VK → Prop} (h : CallR X c r) (h' : CallR X c r') : CallR X c (fun xs H Q => r xs H Q ∨ r' xs H Q) := fun pins s σ H xs us Q I rx q =>
  q.elim (h pins s σ H xs us Q I rx) (h' pins s σ H xs us Q I rx)
theorem PI.or {tg it : Expr} {w1 w2 : TI} (h : PI X tg it w1) (h' : PI X tg it w2) : PI X tg it (fun σ H R => w1 σ H R ∨ w2 σ H R) :=
  ⟨fun pins s σ H R I q => q.elim (h.run pins s σ H R I) (h'.run pins s σ H R I)⟩
/-- ** of great ints by a small power -/
def CPowW (i j : Int) : Prop := 0 ≤ j ∧ (Builtin.Int.intBits i : Int) * j ≤ 2 ^ 27
theorem op_powW : OpR X (binaryOp .Pow) (rI CPowW fun i j => .int (i ^ j.toNat)) := opI fun _ _ _ _ _ _ _ hc q => pow_int hc.1 hc.2 q
end
/-! ### enumerate of a tuple -/
def Itet (K : PySem.W.Frag) (a : Addr) : It :=
  ⟨fun i H => ∃ (xs : List V) (x : V), SqT K H a xs ∧ xs[i]? = some x, fun i H v H' => ∃ T x, v = .ref T ∧ H T = none ∧ H' = upd H T (.tup [.int (i : Nat), x]) ∧ ∀ xs, SqT K H a xs → xs[i]? = some x,
    fun i H => ∃ xs : List V, SqT K H a xs ∧ xs.length = i⟩
theorem ne_enum {h : Heap} {e it a : Addr} {i : Int} {old : Value} {its : Array Value} (he : IsEnum h e it i old) (ht : h.IsTuple a its) : e ≠ a := fun z => by
  obtain ⟨o, ho, hc, _⟩ := ht
  have y : h.get? e = _ := he
  rw [z, ho] at y
  rw [Option.some.inj y] at hc
  have z2 : (Value.type "enumerate") = Value.type "tuple" := hc
  exact absurd z2 (by decide)
theorem turn_enumT {P : Program} {w : World} {K : PySem.W.Frag} {elts : List Expr} {kk : Nat} {tpos : Pos} (a e it : Addr) :
    Turn P w K (.Tuple elts kk tpos) (Itet K a) [e, it] e (fun i h => (∃ old, IsEnum h e it ((i : Nat) : Int) old) ∧ h.IsTupleIter it a i ∧ e ≠ it ∧ a ≠ it) where
  mem := List.mem_cons_self
  obj := fun i h st b hb => by
    obtain ⟨⟨old, he⟩, ⟨o, ho, hc, hd⟩, _⟩ := st
    rcases List.mem_cons.mp hb with z | z
    · exact z ▸ ⟨_, he, fun v q => nomatch q⟩
    · rw [List.mem_singleton.mp z]
      exact ⟨o, ho, fun v q => by rw [hd] at q; cases q⟩
  keep := fun i h h' st k => let ⟨⟨old, he⟩, hi, hne⟩ := st; ⟨⟨old, k e (by simp) _ he⟩, hi.at fun o q => k it (by simp) o q, hne⟩
  item := by
    intro X hP hw hK hc i pins s σ H E I hf st hg
    subst hP hw hK
    obtain ⟨⟨old, he⟩, hit, hne, hna⟩ := st
    obtain ⟨xs, x, hq, hx⟩ := hg
    obtain ⟨its, rv, p, hz⟩ := I.tuple hq
    have hlt : i < its.toArray.size := by
      have q := (List.getElem?_eq_some_iff.mp hx).1
      rw [List.size_toArray, ← rv.length]
      exact q
    have lte : e < s.heap.objs.size := Heap.lt_size he
    have ltt : it < s.heap.objs.size := by obtain ⟨_, q, _⟩ := hit; exact Heap.lt_size q
    have hea : e ∉ [it, a] := fun z => by
      rcases List.mem_cons.mp z with z | z
      · exact hne z
      · exact ne_enum he p (List.mem_singleton.mp z)
    refine wpAny_pyNext_enum_itemC (Draws.tuple (show X.A.in1.handled = none from I.ok.hd hc) it a hna its.toArray) he ⟨hit, p⟩ hlt hne hea fun u h' tk hu ho st' hT hsz hk => ?_
    obtain ⟨u', hu', ru⟩ := rv.get hx
    have eu : u = u' := Option.some.inj ((show some u = its[i]? by rw [← hu]; simp).trans hu')
    subst eu
    refine ⟨_, rfl, wpAny_letOwnedTupleGo_enum (s := { s with heap := h', toks := tk + 1 }) ho fun h2 he2 sb => ?_⟩
    have hT2 : h2.get? s.heap.objs.size = some { cls := .type "tuple", data := .seq #[.int ((i : Nat) : Int) tk, u] } := (sb.2 _ (Nat.ne_of_gt lte)).trans hT
    have new : ObjOk X.prog X.w (upd H s.heap.objs.size (.tup [.int (i : Nat), x])) h2 s.heap.objs.size (.tup [.int (i : Nat), x]) :=
      ⟨by show 2 ≤ sizeLine; decide, [.int ((i : Nat) : Int) tk, u], .cons ⟨_, rfl⟩ (.cons ru .nil), ⟨_, hT2, rfl, _, rfl⟩⟩
    have J : Inv X pins σ (upd H s.heap.objs.size (.tup [.int (i : Nat), x])) { s with heap := h2, toks := tk + 1 } :=
      I.turnedNew (ch := [e, it]) (fun b ob hb q => (sb.2 b (fun z => hb (by simp [z]))).trans (hk b ob (fun z => hb (by simp [z])) (fun z => hb (by simp [z])) q)) hf (Nat.le_refl _) new
    refine ⟨.ref s.heap.objs.size, _, J, rfl, ⟨_, x, rfl, I.hok.fresh (Nat.le_refl _), rfl, fun ys hy => by rw [I.tuple_inj hy hq]; exact hx⟩, ⟨⟨u, ?_⟩, st'.1.at fun o q => (sb.2 it (Ne.symm hne)).trans q, hne, hna⟩, fun b hb => ?_⟩
    · have e1 : ((i + 1 : Nat) : Int) = (i : Int) + 1 := by omega
      rw [e1]
      exact he2
    · have lb : b < s.heap.objs.size := by
        rcases List.mem_cons.mp hb with z | z
        · exact z ▸ lte
        · exact (List.mem_singleton.mp z) ▸ ltt
      rw [upd_ne (Nat.ne_of_lt lb)]
      exact (hf b hb).1
  done := by
    intro X hP hw hK hc i pins s σ H E I hf st hg
    subst hP hw hK
    obtain ⟨⟨old, he⟩, hit, hne, hna⟩ := st
    obtain ⟨xs, hq, hx⟩ := hg
    obtain ⟨its, rv, p, hz⟩ := I.tuple hq
    obtain ⟨f0, f1, f2, f3, f4, f5⟩ := hf it (by simp)
    have hn : its.toArray.size = i := by rw [List.size_toArray, ← rv.length]; exact hx
    refine wpAny_pyNext_enum_endD (Draws.tuple (show X.A.in1.handled = none from I.ok.hd hc) it a hna its.toArray) he ⟨by rw [hn]; exact hit, p⟩ fun h' eb => ⟨rfl, I.turned (t' := s.toks) (fun b o hb q => eb b o hb q) f0 f1 f3 f4 f5⟩
  self := fun A i s Q E st h => let ⟨⟨_, he⟩, _⟩ := st; wpAny_pyIter_enum he h
/-- enumerate(t) makes two new objects: t's iterator and itself -/
theorem enum1_new {v : Value} {it0 : Obj} {H : Heap → Prop} (B : Begins v it0 H) : Meets (Builtin.«enumerate.__new__» ⟨[.type "enumerate", v], []⟩) fun _ R s => H s.heap ∧
    R (.ok (.ret (.ref (s.heap.push it0).objs.size))) { s with heap := (s.heap.push it0).push { cls := .type "enumerate", data := .fields #[.none, .bool false, .ref s.heap.objs.size, rawInt 0, .none, .none] } } :=
  .of_wp fun prog w A R s h => by
    obtain ⟨hp, g, d, tk, os⟩ := s
    obtain ⟨h1, h2⟩ := h
    have sub := sub_enumerate
    have begins : ∀ {A' : Around} {E' : Value → Shared → Prop} {Q' : Value → Shared → Prop}, Q' (.ref hp.objs.size) ⟨hp.push it0, g, d, tk, os⟩ → wpAny (model prog w) A' (pyIter v) Q' E' ⟨hp, g, d, tk, os⟩ :=
      fun y => B.iter prog w _ _ ⟨hp, g, d, tk, os⟩ _ h1 y
    wp_walk using begins
    refine wpAny_stack_any fun _ => wpAny_pure ?_
    split
    · rename_i c _ _ _ _ _
      cases (c == Value.type "enumerate") <;> (wp_walk using begins; exact ⟨_, rfl, h2⟩)
    · wp_walk using begins
      exact ⟨_, rfl, h2⟩
theorem enum1_begins {prog : Program} {w : World} {A : Around} {E : Value → Shared → Prop} {s : Shared} {v : Value} {it0 : Obj} {H : Heap → Prop} {Q : Value → Shared → Prop} (B : Begins v it0 H) (h1 : H s.heap)
    (h : ∀ h', IsEnum h' (s.heap.objs.size + 1) s.heap.objs.size 0 .none → h'.get? s.heap.objs.size = some it0 → (∀ b o, s.heap.get? b = some o → h'.get? b = some o) → Q (.ref (s.heap.objs.size + 1)) { s with heap := h' }) :
    wpAny (model prog w) A (call (.type "enumerate") [v]) Q E s := by
  refine callType_new F.called_enumerate (by decide) (F.typeCall_enumerate_1 _) (F.newCall_enumerate_1 _) (fun obj => F.args_object_init_2 obj _) F.entry_enumerate_new (enum1_new B) ⟨h1, ?_⟩
  have z : (s.heap.push it0).objs.size = s.heap.objs.size + 1 := Heap.size_push ..
  have at1 : IsEnum ((s.heap.push it0).push { cls := .type "enumerate", data := .fields #[.none, .bool false, .ref s.heap.objs.size, rawInt 0, .none, .none] }) (s.heap.objs.size + 1) s.heap.objs.size 0 .none := by
    have y := Heap.get?_push_size (s.heap.push it0) (o := { cls := .type "enumerate", data := .fields #[.none, .bool false, .ref s.heap.objs.size, rawInt 0, .none, .none] }) rfl
    rw [z] at y
    exact y
  show _ ∧ _
  rw [z]
  exact ⟨⟨_, at1, rfl⟩, h _ at1 (Heap.get?_push_of_some _ (Heap.get?_push_size _ B.free)) fun b o x => Heap.get?_push_of_some _ (Heap.get?_push_of_some _ x)⟩
def iEnumT (K : PySem.W.Frag) (ta : TA) : TI := fun σ H R => ta σ H fun vs H1 => ∃ a xs, vs = [.ref a] ∧ SqT K H1 a xs ∧ R (Itet K a) H1
theorem walk_enumT {K : PySem.W.Frag} {a : Addr} {xs : List V} : Walk (Itet K a) xs.length (fun H => SqT K H a xs) (YPair (fun i => some (.int (i : Nat))) (fun i => xs[i]?)) := by
  refine ⟨fun i _ hi q => ⟨xs, xs[i], q, by simp [hi]⟩, fun _ q => ⟨xs, q, rfl⟩, fun i H v H' _ q y => ?_⟩
  obtain ⟨T, x, h1, h2, h3, h4⟩ := y
  exact ⟨T, .int (i : Nat), x, h1, h2, h3, rfl, h4 xs q⟩
theorem pi_enumT {X : Cx} {e : Expr} {ta : TA} {p pos tpos : Pos} {elts : List Expr} {kk : Nat} (hg : Gl X "enumerate") (hm : X.mg "enumerate" = none) (ha : PA X [e] ta) (hs : starEach [e] X.env = [(false, eval e X.env)] := by rfl) :
    PI X (.Tuple elts kk tpos) (.Call (.Name "enumerate" p) [e] [] pos) (iEnumT X.K ta) := by
  refine ⟨fun pins s σ H R I h => Call_ (ld_blt I hg hm boot_enumerate (PyProof.Rows.callWith_type1 (thn (ha.run pos pins s σ H _ I h) fun us s1 ⟨vs, H1, I1, r1, q1⟩ => ?_) hs rfl))⟩
  obtain ⟨a, xs, rfl, hq, q⟩ := q1
  rw [Vals.ref1 r1]
  obtain ⟨its, rv, p', hz⟩ := I1.tuple hq
  refine enum1_begins (begins_tuple a its.toArray) p' fun h' he hit hk => wpAny_pyIter_enum he ?_
  have J : Inv X pins σ H1 { s1 with heap := h' } := I1.kept (t' := s1.toks) hk
  have la : a ≠ s1.heap.objs.size := let ⟨_, ho, _⟩ := p'; Nat.ne_of_lt (Heap.lt_size ho)
  refine ⟨s1.heap.objs.size + 1, [s1.heap.objs.size + 1, s1.heap.objs.size], _, _, H1, rfl, J, turn_enumT a (s1.heap.objs.size + 1) s1.heap.objs.size,
    ⟨⟨.none, he⟩, ⟨_, hit, rfl, rfl⟩, Nat.succ_ne_self _, la⟩, fun b hb => ?_, q⟩
  have le : s1.heap.objs.size ≤ b := by
    rcases List.mem_cons.mp hb with z | z
    · rw [z]; exact Nat.le_succ _
    · rw [List.mem_singleton.mp z]; exact Nat.le_refl _
  exact I1.fpOk le (I1.hok.fresh le)
end Ol
set_option Elab.async false
set_option linter.all false
set_option maxRecDepth 100000
set_option maxHeartbeats 4000000
/-! own: tuples are made with their object told: it has no dict -/
namespace Ol
open PySem PySem.Spec PyProof.Rows L2
section
variable {X : Cx}
/-- what is told of a new tuple -/
def NewT (H : Hp) (xs : List V) (Q : VK) : Prop := ∀ (p : Addr) (ob : Obj), H p = none → ob.dict = none → Q (.ref p) (upd H p (.frz ob (.tup xs)))
theorem newT_at {pins : List (Addr × Obj)} {σ : L2.St} {H : Hp} {s : Shared} {Q : VK} {xs : List V} {its : List Value} (I : Inv X pins σ H s) (r : Vals xs its) (hz : xs.length ≤ sizeLine) (q : NewT H xs Q) :
    EP X pins σ Q (.ref s.heap.objs.size) { s with heap := s.heap.push { cls := .type "tuple", data := .seq its.toArray } } := by
  have at1 : (s.heap.push { cls := .type "tuple", data := .seq its.toArray }).get? s.heap.objs.size = some { cls := .type "tuple", data := .seq its.toArray } := Heap.get?_push_size _ rfl
  refine ⟨.ref s.heap.objs.size, _, I.laid (t' := s.toks) (o := .frz { cls := .type "tuple", data := .seq its.toArray } (.tup xs)) (fun b ob q => Heap.get?_push_of_some _ q) (Nat.le_refl _) ?_, rfl, q _ _ (I.hok.fresh (Nat.le_refl _)) rfl⟩
  exact ⟨at1, hz, its, r, ⟨_, at1, rfl, _, rfl⟩⟩
def tTupN (t : TA) : TE := fun σ H Q => t σ H fun xs H1 => xs.length ≤ sizeLine ∧ NewT H1 xs Q
theorem pe_tupN {es : List Expr} {pos : Pos} {t : TA} {x1} (h : PA X es t) : PE X (.Tuple es x1 pos) (tTupN t) := by
  refine ⟨fun pins s σ H Q I hq => ?_⟩
  refine wpAny_Tuple_spliced (thn (h.run pos pins s σ H _ I hq) fun us s1 ⟨xs, H1, I1, r, z, q⟩ => ⟨by rw [← r.length]; exact z, ?_⟩)
  exact newT_at I1 r z q
def rCatN (K : PySem.W.Frag) : R2 := fun x y H Q => ∃ a b xs ys, x = .ref a ∧ y = .ref b ∧ SqT K H a xs ∧ SqT K H b ys ∧ xs.length + ys.length ≤ sizeLine ∧
  (xs = [] → Q (.ref b) H) ∧ (xs ≠ [] → ys = [] → Q (.ref a) H) ∧ (xs ≠ [] → ys ≠ [] → NewT H (xs ++ ys) Q)
theorem op_catN : OpR X (binaryOp .Add) (rCatN X.K) := by
  intro pins s σ H x y v u Q I rx ry h
  obtain ⟨a, b, xs, ys, rfl, rfl, ha, hb, hz, q0, q1, q2⟩ := h
  cases rx
  cases ry
  obtain ⟨its, r1, p1, _⟩ := I.tuple ha
  obtain ⟨its2, r2, p2, _⟩ := I.tuple hb
  by_cases hx : xs = []
  · subst hx
    cases r1
    exact cat_tup0 p1 p2 ⟨.ref b, H, I, rfl, q0 rfl⟩
  · refine HT.cat_tup p1 p2 (fun z => hx (r1.nil_iff.mp z)) (fun z => ⟨.ref a, H, I, rfl, q1 hx (r2.nil_iff.mp z)⟩) (fun z => ?_) (by rw [← r1.length, ← r2.length]; exact hz)
    exact newT_at I (r1.append r2) (by rw [List.length_append]; exact hz) (q2 hx fun w => z (r2.nil_iff.mpr w))
def rSlN (K : PySem.W.Frag) : V → Option Int → Option Int → Hp → VK → Prop := fun x lo hi H Q => ∃ a xs, x = .ref a ∧ SqT K H a xs ∧
  (HT.sIx xs.length 0 lo = 0 ∧ HT.sIx xs.length xs.length hi = xs.length → Q (.ref a) H) ∧ (¬ (HT.sIx xs.length 0 lo = 0 ∧ HT.sIx xs.length xs.length hi = xs.length) → NewT H (cutV xs lo hi) Q)
theorem sl_tupN : SlR X (rSlN X.K) := by
  intro pins s σ H x v vl vu lo hi sl Q I rx hs pl pu h
  obtain ⟨a, xs, rfl, hx, q1, q2⟩ := h
  cases rx
  obtain ⟨its, r, ht, hz⟩ := I.tuple hx
  have hlen : its.toArray.size = xs.length := by rw [List.size_toArray]; exact r.length.symm
  refine ⟨"tuple", _, PyProof.Rows.slot_tuple_getitem.lookup, ht.typeIs, ?_⟩
  by_cases hw : HT.sIx xs.length 0 lo = 0 ∧ HT.sIx xs.length xs.length hi = xs.length
  · exact getItem_tuple_whole ht hs pl pu (by rw [hlen]; exact hw) ⟨.ref a, H, I, rfl, q1 hw⟩
  · refine HT.getItem_tuple_cut ht hs pl pu (by rw [hlen]; exact hw) ?_ (by rw [hlen]; exact hz)
    rw [hlen]
    exact newT_at I ((r.drop (HT.sIx xs.length 0 lo)).take (HT.sIx xs.length xs.length hi - HT.sIx xs.length 0 lo)) (Nat.le_trans (cutV_length xs lo hi) hz) (q2 hw)
theorem call_tupleN : CallR X (.type "tuple") (fun xs H Q => ∃ p ys, xs = [.ref p] ∧ ((SqL X.K H p ys ∧ NewT H ys Q) ∨ (SqT X.K H p ys ∧ Q (.ref p) H))) := by
  intro pins s σ H xs us Q I r h
  obtain ⟨p, ys, rfl, h⟩ := h
  obtain ⟨u, rfl, rx⟩ := vals1 r
  cases rx
  rcases h with ⟨hq, q⟩ | ⟨hq, q⟩
  · obtain ⟨its, r', pl, hz⟩ := I.list hq
    have hlen := r'.length
    refine call_tuple_list pl.isList (fun h' kp => ?_) (by simp only [List.size_toArray] <;> omega)
    have I1 : Inv X pins σ H { s with heap := h' } := I.kept (t' := s.toks) kp
    exact newT_at I1 r' hz q
  · obtain ⟨its, r', pl, hz⟩ := I.tuple hq
    exact call_tuple_same pl ⟨.ref p, H, I, rfl, q⟩
/-! t.index(x) -/
def NoD (H : Hp) (a : Addr) : Prop := ∃ (ob : Obj) (xs : List V), H a = some (.frz ob (.tup xs)) ∧ ob.dict = none
def tIdx (K : PySem.W.Frag) (to : TE) (t : TA) : TE := fun σ H Q => to σ H fun x H1 => (∃ p ys, x = .ref p ∧ SqT K H1 p ys ∧ NoD H1 p) ∧ t σ H1 fun xs H2 => ∃ p, ∃ ys : List Str, ∃ z j, x = .ref p ∧ xs = [.str z] ∧ SqT K H2 p (ys.map V.str) ∧ ys[j]? = some z ∧ (∀ m, m < j → ys[m]? ≠ some z) ∧ Q (.int (j : Nat)) H2
variable {o e : Expr} {es : List Expr} {to : TE} {t : TA} {apos cpos : Pos}
theorem pe_tupIdx (ho : PE X o to) (ha : PA X (e :: es) t)
    (hbase : attributeBase o "index" X.env (eval o X.env) = eval o X.env := by rfl)
    (hfew : ((backTo cpos (starEach (e :: es) X.env)).all (fun x => !x.1) && (backToKw cpos (keywordEach [] X.env)).all (fun x => x.1.isSome)
      && decide ((e :: es).length + ([] : List Keyword).length + (if ([] : List Keyword).isEmpty then 0 else 1) < 30)) = true := by rfl)
    (hline : (apos.endLine == cpos.line) = true := by rfl) (hs : starEach (e :: es) X.env = (false, eval e X.env) :: starEach es X.env := by rfl) (hplain : (backTo cpos (starEach es X.env)).any (·.1) = false := by rfl) :
    PE X (.Call (.Attribute o "index" apos) (e :: es) [] cpos) (tIdx X.K to t) := by
  refine ⟨fun pins s σ H Q I h => ?_⟩
  refine wpAny_Call_method_late hbase hfew hline rfl (thn (ho.run pins s σ H _ I h) fun v s1 ⟨x, H1, I1, r1, ty, q1⟩ => ?_)
  obtain ⟨p, ys, rfl, hq, ob, zs, hf, hd⟩ := ty
  cases r1
  obtain ⟨its, rr, pl, _⟩ := I1.tuple hq
  have hat : s1.heap.get? p = some ob := (I1.hok p _ hf).1
  refine ⟨"tuple", _, PySem.F.plainAttrs_tuple, PySem.F.slot_tuple_index, PySem.F.type_tuple_index, pl.typeIs, fun a ea => by cases ea; exact ⟨ob, hat, hd⟩, ?_⟩
  have hA := ha.run cpos pins s1 σ H1 _ I1 q1
  rw [hs] at hA ⊢
  refine Calls.callWith_builtin (by show (false || (backTo cpos (starEach es X.env)).any (·.1)) = false; rw [hplain] <;> rfl) (Calls.evalArgs_plain ?_)
  exact thn hA fun us s2 ⟨vs, H2, I2, r2, q2⟩ => mt_tup_index pins s2 σ H2 (.ref p) vs (.ref p) us Q I2 rfl r2 q2
/-! xs[::-1] of a list -/
def tRevL (K : PySem.W.Frag) (te : TE) (ts : TO) : TE := fun σ H Q => te σ H fun x H1 => ts σ H1 fun u H2 => u = some (-1) ∧ ∃ a xs, x = .ref a ∧ SqL K H2 a xs ∧ ∀ p, H2 p = none → Q (.ref p) (upd H2 p (.lst xs.reverse))
theorem pe_revL {st : Expr} {te : TE} {ts : TO} {p2 pos : Pos} (he : PE X e te) (hu : PO X (some st) ts) (hsub : ∀ v sl : Value, subscripted (.Slice none none (some st) p2) false v sl = operate [v, sl] (getItem v sl) := by intros; rfl) : PE X (.Subscript e (.Slice none none (some st) p2) pos) (tRevL X.K te ts) := by
  refine ⟨fun pins s σ H Q I h => ?_⟩
  refine Subscript_ (thn (he.run pins s σ H _ I h) fun v s1 ⟨x, H1, I1, r1, q1⟩ => ?_)
  refine wpAny_Slice ?_
  rw [evalPart_none]
  refine wpAny_pure (wpAny_pure ?_)
  refine thn (hu.run pins s1 σ H1 _ I1 q1) fun vu s3 ⟨u, H3, I3, pu, q3⟩ => ?_
  obtain ⟨rfl, a, xs, rfl, hx, q⟩ := q3
  cases r1
  have I4 : Inv X pins σ H3 { s3 with heap := s3.heap.push { cls := .type "slice", data := .fields #[.none, .none, vu] } } := I3.kept (t' := s3.toks) fun b ob q => Heap.get?_push_of_some _ q
  obtain ⟨its, r, ht, hz⟩ := I4.list hx
  have hlen := r.length
  have isl : Heap.IsSliceOf (s3.heap.push { cls := .type "slice", data := .fields #[.none, .none, vu] }) s3.heap.objs.size .none .none vu := Heap.IsSliceOf.new ..
  have hg : wpAny (model X.prog X.w) X.A (getItem (.ref a) (.ref s3.heap.objs.size)) (EP X pins σ Q) X.xe { s3 with heap := s3.heap.push { cls := .type "slice", data := .fields #[.none, .none, vu] } } := by
    refine wpAny_getItem_list_slice ht.isList isl .none .none pu (by decide) ?_ (by rw [List.size_toArray] <;> omega)
    rw [PySem.W.krv_pick]
    refine ⟨.ref _, _, I4.laid (t' := s3.toks) (o := .lst xs.reverse) (fun b ob q => Heap.get?_push_of_some _ q) (Nat.le_refl _) ?_, rfl, q _ (I4.hok.fresh (Nat.le_refl _))⟩
    exact ⟨by rw [List.length_reverse]; exact hz, its.reverse, 0, r.reverse, Heap.get?_push_size _ rfl⟩
  exact tail_any (ops := [.ref a, .ref s3.heap.objs.size]) ht.isList.typeIs slot_list_getitem.lookup hg (hsub _ _)
end
end Ol
set_option Elab.async false
set_option linter.all false
set_option maxRecDepth 100000
set_option maxHeartbeats 4000000
/-! own: dicts whose keys are tuples that are told with their object -/
namespace Ol
open PySem PySem.Spec PyProof.Rows L2
abbrev KE3 := List (List Key × Addr × V)
abbrev EntR : List Key × Addr × V → List Key × Addr × Value → Prop := fun p q => p.1 = q.1 ∧ p.2.1 = q.2.1 ∧ RelV p.2.2 q.2.2
/-- what stands in the dict's own object: keys, where they lie, values -/
def rawT (P : Program) (w : World) (a : Addr) (ks : KE3) (h : Heap) : Prop := ks.length ≤ sizeLine ∧ (a == sysModules) = false ∧ ∃ xs : List (List Key × Addr × Value), Paired EntR ks xs ∧
  ∃ o es ep, h.get? a = some o ∧ o.ExactDict ∧ o.data = .dict es ep ∧ es.toList = xs.map (entryOfKey (tupleKind (mixKind P w))) ∧ (xs.map (·.1)).Nodup
def DtO (P : Program) (w : World) (a : Addr) (ks : KE3) : HO := .ext (rawT P w a ks)
/-- a key that is told with its object -/
def TKn (K : PySem.W.Frag) (H : Hp) (k : List Key) (b : Addr) : Prop := SqT K H b (k.map kV)
def Kns (K : PySem.W.Frag) (H : Hp) (ks : KE3) : Prop := ∀ q ∈ ks, TKn K H q.1 q.2.1
def hasT (ks : KE3) (k : List Key) : Bool := ks.any fun q => decide (q.1 = k)
def putT (ks : KE3) (k : List Key) (b : Addr) (v : V) : KE3 := if hasT ks k = true then ks.map (fun q => if q.1 = k then (q.1, q.2.1, v) else q) else ks ++ [(k, b, v)]
theorem rawT_ok {P : Program} {w : World} {H : Hp} {h : Heap} {a : Addr} {ks : KE3} (r : rawT P w a ks h) : ObjOk P w H h a (DtO P w a ks) := by
  refine ⟨r, ?_, fun h1 h2 r1 k => ?_⟩
  · obtain ⟨_, _, _, _, o, _, _, e, _⟩ := r
    exact ⟨o, e⟩
  · obtain ⟨z, s, xs, pr, o, es, ep, e, more⟩ := r1
    exact ⟨z, s, xs, pr, o, es, ep, k o e, more⟩
section
variable {P : Program} {w : World} {H : Hp} {h : Heap} {a b : Addr} {ks : KE3} {xs : List (List Key × Addr × Value)} {k : List Key}
theorem key_told {X : Cx} {pins : List (Addr × Obj)} {σ : L2.St} {s : Shared} (I : Inv X pins σ H s) (e : TKn X.K H k b) : (tupleKind (mixKind X.prog X.w)).is s.heap k b := by
  obtain ⟨its, r, ⟨o, g1, g2, n, g3⟩, _⟩ := I.tuple e
  exact ⟨o, its.toArray, n, g1, g2, g3, by simpa using items_are r⟩
theorem dt_told {X : Cx} {pins : List (Addr × Obj)} {σ : L2.St} {s : Shared} (I : Inv X pins σ H s) (e : H a = some (DtO X.prog X.w a ks)) (kn : Kns X.K H ks) : ks.length ≤ sizeLine ∧ (a == sysModules) = false ∧ ∃ xs, Paired EntR ks xs ∧ s.heap.DictOfH (tupleKind (mixKind X.prog X.w)) a xs := by
  obtain ⟨z, s0, xs, pr, o, es, ep, g1, g2, g3, g4, g5⟩ := (I.hok a _ e).1
  refine ⟨z, s0, xs, pr, o, es, ep, g1, g2, g3, g4, ?_, g5⟩
  clear g1 g2 g3 g4 g5 z e
  induction pr with
  | nil => intro x hx; cases hx
  | @cons p q ps qs hq _ ih =>
    intro x hx
    rcases List.mem_cons.mp hx with rfl | hx
    · obtain ⟨e1, e2, _⟩ := hq
      rw [← e1, ← e2]
      exact key_told I (kn p List.mem_cons_self)
    · exact ih (fun q hq => kn q (List.mem_cons_of_mem _ hq)) x hx
theorem ent_has (r : Paired EntR ks xs) : (atKey xs k).isSome = hasT ks k := by
  induction r with
  | nil => rfl
  | @cons p q ps qs hq _ ih =>
    by_cases e : p.1 = k
    · have e2 : q.1 = k := hq.1.symm.trans e
      simp [atKey, hasT, List.find?_cons, e, e2]
    · have e2 : ¬ q.1 = k := fun z => e (hq.1.trans z)
      have z1 : atKey (q :: qs) k = atKey qs k := by simp [atKey, List.find?_cons, e2]
      have z2 : hasT (p :: ps) k = hasT ps k := by simp [hasT, e]
      rw [z1, z2, ih]
theorem ent_put {v : V} {u : Value} (r : Paired EntR ks xs) (rv : RelV v u) : Paired EntR (putT ks k b v) (storedH xs k b u) := by
  unfold putT storedH
  rw [ent_has r]
  by_cases c : hasT ks k = true
  · rw [if_pos c, if_pos c]
    clear c
    induction r with
    | nil => exact .nil
    | @cons p q ps qs hq _ ih =>
      refine .cons ?_ ih
      unfold putAt
      dsimp only
      by_cases e : p.1 = k
      · rw [if_pos e, if_pos (hq.1.symm.trans e)]
        exact ⟨hq.1, hq.2.1, rv⟩
      · rw [if_neg e, if_neg (fun z => e (hq.1.trans z))]
        exact hq
  · rw [if_neg c, if_neg c]
    exact Paired.snoc r ⟨rfl, rfl, rv⟩
theorem putT_len (ks : KE3) (k : List Key) (b : Addr) (v : V) : (putT ks k b v).length ≤ ks.length + 1 := by
  unfold putT
  split <;> simp
end
section
variable {X : Cx} {pos : Pos}
/-- {} -/
def tDtNew (P : Program) (w : World) : TE := fun _ H Q => ∀ p, H p = none → Q (.ref p) (upd H p (DtO P w p []))
theorem pe_dtNew : PE X (.Dict [] [] pos) (tDtNew X.prog X.w) := by
  refine ⟨fun pins s σ H Q I h => ?_⟩
  have hs : (s.heap.objs.size == sysModules) = false := beq_eq_false_iff_ne.mpr (Nat.ne_of_gt I.big)
  refine wpAny_Dict_empty ⟨.ref s.heap.objs.size, _, I.laid (a := s.heap.objs.size) (o := DtO X.prog X.w s.heap.objs.size []) (t' := s.toks) (fun _ _ q => Heap.get?_push_of_some _ q) (Nat.le_refl _) (rawT_ok ?_), rfl, h _ (I.hok.fresh (Nat.le_refl _))⟩
  exact ⟨Nat.zero_le _, hs, [], .nil, _, #[], _, Heap.get?_push_size _ rfl, ⟨rfl, rfl, rfl⟩, rfl, rfl, List.nodup_nil⟩
/-- d[k] = v -/
def rSetT (K : PySem.W.Frag) (P : Program) (w : World) : TSet := fun o i v H Q => ∃ a ks k b, o = .ref a ∧ i = .ref b ∧ H a = some (DtO P w a ks) ∧ TKn K H k b ∧ Kns K H ks ∧ ks.length < sizeLine ∧ Q (upd H a (DtO P w a (putT ks k b v)))
theorem set_dt (hu : X.A.units + 1 < cLine) : PSet X (rSetT X.K X.prog X.w) := by
  intro pins s σ H o i v ov iv u Q I ro ri rv h
  obtain ⟨a, ks, k, b, rfl, rfl, e, kb, kn, l, q⟩ := h
  cases (show ov = Value.ref a from ro)
  cases (show iv = Value.ref b from ri)
  obtain ⟨z, hs, xs, pr, dd⟩ := dt_told I e kn
  have hl : ks.length = xs.length := Paired.length pr
  have hz : xs.length ≤ sizeLine := by omega
  refine wpAny_setItem_heap (hsz := hz) (tupleKind_room_in1 hu) (key_told I kb) dd fun h' dd' sb => ?_
  obtain ⟨ob, es, ep, g1, g2, g3, g4, _, g5⟩ := dd'
  refine ⟨_, d_write I (by rw [e]; exact True.intro) sb ⟨ob, g1⟩ (rawT_ok ?_), q⟩
  exact ⟨by have := putT_len ks k b v; omega, hs, _, ent_put pr rv, ob, es, ep, g1, g2, g3, g4, g5⟩
/-- k in d -/
def rInT (K : PySem.W.Frag) (P : Program) (w : World) (neg : Bool) : R2 := fun x y H Q => ∃ a ks k b, x = .ref b ∧ y = .ref a ∧ H a = some (DtO P w a ks) ∧ TKn K H k b ∧ Kns K H ks ∧ Q (.bl (neg ^^ hasT ks k)) H
theorem or_inT (hu : X.A.units + 1 < cLine) : OpR X (compareOp .In) (rInT X.K X.prog X.w false) := by
  intro pins s σ H x y v u Q I rx ry h
  obtain ⟨a, ks, k, b, rfl, rfl, e, kb, kn, q⟩ := h
  cases (show v = Value.ref b from rx)
  cases (show u = Value.ref a from ry)
  obtain ⟨z, hs, xs, pr, dd⟩ := dt_told I e kn
  refine wpAny_in_heap (tupleKind_room_in1 hu) (key_told I kb) hs dd ?_
  rw [ent_has pr]
  rw [Bool.false_xor] at q
  exact ⟨.bl (hasT ks k), H, I.tok _, rfl, q⟩
theorem or_notInT (hu : X.A.units + 1 < cLine) : OpR X (compareOp .NotIn) (rInT X.K X.prog X.w true) := by
  intro pins s σ H x y v u Q I rx ry h
  obtain ⟨a, ks, k, b, rfl, rfl, e, kb, kn, q⟩ := h
  cases (show v = Value.ref b from rx)
  cases (show u = Value.ref a from ry)
  obtain ⟨z, hs, xs, pr, dd⟩ := dt_told I e kn
  refine wpAny_notIn_heap (tupleKind_room_in1 hu) (key_told I kb) hs dd ?_
  rw [ent_has pr]
  rw [Bool.true_xor] at q
  exact ⟨.bl (!hasT ks k), H, I.tok _, rfl, q⟩
end
end Ol
set_option Elab.async false
set_option linter.all false
set_option maxRecDepth 100000
set_option maxHeartbeats 4000000
/-! own: list(d), dict(pairs) for such dicts -/
namespace Ol
open PySem PySem.Spec PyProof.Rows L2
section
variable {X : Cx}
theorem ent_keys {ks : KE3} {xs : List (List Key × Addr × Value)} (r : Paired EntR ks xs) : xs.map (fun q => Value.ref q.2.1) = (ks.map fun q => q.2.1).map Value.ref := by
  induction r with
  | nil => rfl
  | cons hq _ ih => rw [List.map_cons, List.map_cons, List.map_cons, ih, hq.2.1]
/-- list(d): the keys as they lie -/
theorem call_listDt (hc : X.calm = true) : CallR X (.type "list") (fun xs H Q => ∃ d ks, xs = [V.ref d] ∧ H d = some (DtO X.prog X.w d ks) ∧ ∀ p, H p = none → Q (.ref p) (upd H p (.lst (ks.map fun q => V.ref q.2.1)))) := by
  intro pins s σ H xs us Q I r h
  obtain ⟨d, ks, rfl, hd, q⟩ := h
  obtain ⟨u, rfl, rx⟩ := r.one
  cases rx
  obtain ⟨z, hs, xs, pr, o, es, ep, ho, hx, hdt, he, hn⟩ := (I.hok d _ hd).1
  have l1 : es.size = xs.length := by
    have := congrArg List.length he
    simpa using this
  have l2 : ks.length = xs.length := Paired.length pr
  refine PySem.W.kdl_call (kdl_raw hs hx hdt) (I.ok.hd hc) ho (by omega) fun h' tk acc' c' kp e it => ?_
  have ea : acc'.toList = xs.map fun q => Value.ref q.2.1 := by
    refine List.ext_getElem? fun j => ?_
    have la : acc'.toList.length = xs.length := by rw [Array.length_toList, it.1, l1]
    by_cases hj : j < xs.length
    · have hj2 : j < acc'.toList.length := by omega
      obtain ⟨en, hen, hv⟩ := it.2 j acc'.toList[j] (by rw [← Array.getElem?_toList]; exact List.getElem?_eq_getElem hj2)
      have qe := entry_at he j
      rw [hen, List.getElem?_eq_getElem hj] at qe
      have e2 : en = entryOfKey (tupleKind (mixKind X.prog X.w)) xs[j] := Option.some.inj qe
      rw [List.getElem?_eq_getElem hj2, List.getElem?_map, List.getElem?_eq_getElem hj, hv, e2]
      rfl
    · rw [List.getElem?_eq_none (by omega), List.getElem?_map, List.getElem?_eq_none (by omega)]
      rfl
  rw [ent_keys pr] at ea
  have rv : Vals (ks.map fun q => V.ref q.2.1) acc'.toList := by
    rw [ea]
    have := vals_refs (ks.map fun q => q.2.1)
    rw [List.map_map] at this
    exact this
  refine ⟨.ref s.heap.objs.size, _, I.laid (t' := tk) (o := .lst (ks.map fun q => V.ref q.2.1)) kp (Nat.le_refl _) ?_, rfl, q _ (I.hok.fresh (Nat.le_refl _))⟩
  exact ⟨by rw [List.length_map]; exact z, acc'.toList, c', rv, by rw [Array.toArray_toList]; exact e⟩
end
/-- one pair behind the other -/
def mergeT : KE3 → KE3 → KE3
  | acc, [] => acc
  | acc, q :: r => mergeT (putT acc q.1 q.2.1 q.2.2) r
def mergeE : List (List Key × Addr × Value) → List (List Key × Addr × Value) → List (List Key × Addr × Value)
  | acc, [] => acc
  | acc, q :: r => mergeE (storedH acc q.1 q.2.1 q.2.2) r
theorem storedH_len (xs : List (List Key × Addr × Value)) (k : List Key) (b : Addr) (u : Value) : (storedH xs k b u).length ≤ xs.length + 1 := by
  unfold storedH
  split <;> simp
theorem ent_merge {ps : KE3} {qs : List (List Key × Addr × Value)} (r : Paired EntR ps qs) : ∀ {ks : KE3} {xs : List (List Key × Addr × Value)}, Paired EntR ks xs → Paired EntR (mergeT ks ps) (mergeE xs qs) := by
  induction r with
  | nil => exact fun t => t
  | @cons p q ps qs hq _ ih =>
    intro ks xs t
    show Paired EntR (mergeT (putT ks p.1 p.2.1 p.2.2) ps) (mergeE (storedH xs q.1 q.2.1 q.2.2) qs)
    rw [← hq.1, ← hq.2.1]
    exact ih (ent_put t hq.2.2)
section
variable {prog : Program} {w : World} {A : Around} {E : Value → Shared → Prop}
theorem tk_keep {h h' : Heap} {k : List Key} {b I : Addr} (x : (tupleKind (mixKind prog w)).is h k b) (kp : ∀ c o, c ≠ I → h.get? c = some o → h'.get? c = some o) (n : b ≠ I) : (tupleKind (mixKind prog w)).is h' k b := by
  obtain ⟨o, its, m, g1, g2, g3, g4⟩ := x
  exact ⟨o, its, m, kp b o n g1, g2, g3, g4⟩
theorem dh_keep {h h' : Heap} {S I : Addr} {acc : List (List Key × Addr × Value)} (x : h.DictOfH (tupleKind (mixKind prog w)) S acc) (kp : ∀ c o, c ≠ I → h.get? c = some o → h'.get? c = some o) (n : S ≠ I) (na : ∀ q ∈ acc, q.2.1 ≠ I) : h'.DictOfH (tupleKind (mixKind prog w)) S acc := by
  obtain ⟨o, es, ep, g1, g2, g3, g4, g5, g6⟩ := x
  exact ⟨o, es, ep, kp S o n g1, g2, g3, g4, fun q hq => tk_keep (g5 q hq) kp (na q hq), g6⟩
/-- the walk over the pairs -/
theorem ud_loopT {R : Result → Shared → Prop} {S I l : Addr} {items : Array Value} {res : Value} (hu : A.units + 2 < cLine) (hh : A.handled = none) (n1 : l ≠ I) (n2 : S ≠ I) (n3 : S ≠ l) :
    ∀ (rest : List (List Key × Addr × Value)) (i : Nat) (acc : List (List Key × Addr × Value)) (ix : Int) (t : Tok) (s : Shared), items.size = i + rest.length → acc.length + rest.length ≤ sizeLine →
      (∀ (j : Nat) (q : List Key × Addr × Value), rest[j]? = some q → ∃ b : Addr, items[i + j]? = some (.ref b) ∧ b ≠ S ∧ b ≠ I ∧ q.2.1 ≠ S ∧ q.2.1 ≠ I ∧ IsTup s.heap b #[.ref q.2.1, q.2.2] ∧ (tupleKind (mixKind prog w)).is s.heap q.1 q.2.1) →
      (∀ q ∈ acc, q.2.1 ≠ S ∧ q.2.1 ≠ I) →
      s.heap.IsListIter I l i → s.heap.IsList l items → s.heap.DictOfH (tupleKind (mixKind prog w)) S acc →
      (∀ h' tk, h'.DictOfH (tupleKind (mixKind prog w)) S (mergeE acc rest) → (∀ b o, b ≠ S → b ≠ I → s.heap.get? b = some o → h'.get? b = some o) → R (.ok (.ret res)) { s with heap := h', toks := tk }) →
      codeAny (model prog w) A (.builtin "dict.update.loop" ⟨[.ref S, .ref I, .int ix t, res], []⟩) R s := by
  intro rest
  induction rest with
  | nil =>
    intro i acc ix t s hsz hln ht ha hit hl hm hR
    refine codeAny_builtin ud_entry ?_
    rw [Around.under_plainId ud_plain _]
    show wpAny _ A.in1 (pyNext (.ref I) >>= _) _ _ s
    refine wpAny_bind (wpAny_pyNext_list_end (A := A.in1) hh hit hl (Array.getElem?_eq_none (Nat.le_of_eq hsz)) fun h' he => ?_)
    show wpAny _ A.in1 (Builtin.Dict.addKeywords S [] >>= _) _ _ _
    refine wpAny_bind (wpAny_pure (wpAny_pure ?_))
    exact hR h' s.toks (dh_keep hm (fun c o hc e => he c o hc e) n2 fun q hq => (ha q hq).2) fun c o _ hc e => he c o hc e
  | cons q rest ih =>
    intro i acc ix t s hsz hln ht ha hit hl hm hR
    obtain ⟨b, hb, bS, bI, kS, kI, htup, hk⟩ := ht 0 q rfl
    rw [List.length_cons] at hsz hln
    refine codeAny_builtin ud_entry ?_
    rw [Around.under_plainId ud_plain _]
    show wpAny _ A.in1 (pyNext (.ref I) >>= _) _ _ s
    refine wpAny_bind (wpAny_pyNext_list_item (x := .ref b) hit hl (by simpa using hb) fun h1 hit1 sb1 => ?_)
    have kp1 : ∀ c o, c ≠ I → s.heap.get? c = some o → h1.get? c = some o := fun c o hc e => (sb1.2 c hc).trans e
    have tup1 : IsTup h1 b #[.ref q.2.1, q.2.2] := htup.extBut sb1.extBut bI
    have l1 : h1.IsList l items := hl.extBut sb1.extBut n1
    have m1 := dh_keep hm kp1 n2 fun q hq => (ha q hq).2
    obtain ⟨o, ho, hc, n, hd⟩ := id tup1
    show wpAny _ A.in1 (holding [Value.ref b] _ >>= _) _ _ _
    refine wpAny_bind (wpAny_holding ?_)
    refine wpAny_bind (wpAny_tryCatch ?_)
    unfold Builtin.Dict.pairItems
    refine wpAny_bind (wpAny_typeOf (T := "tuple") ⟨o, ho, hc⟩ ?_)
    rw [if_pos (by first | decide | rfl | simp)]
    refine wpAny_bind (wpAny_seqItems ho hd (wpAny_pure ?_))
    show wpAny _ A.in1 (holding [Value.ref q.2.1, q.2.2] (dictSet S (.ref q.2.1) q.2.2)) _ _ _
    refine wpAny_holding (wpAny_dictSet_heap (knd := tupleKind (mixKind prog w)) (k := q.1) (by show A.units + 1 < cLine; omega) (tk_keep hk kp1 kI) m1 (fun h2 m2 sb2 => ?_) (by omega))
    have kp2 : ∀ c o, c ≠ S → h1.get? c = some o → h2.get? c = some o := fun c o hc e => (sb2.2 c hc).trans e
    have hacc : ∀ x ∈ storedH acc q.1 q.2.1 q.2.2, x.2.1 ≠ S ∧ x.2.1 ≠ I := fun x hx => by
      unfold storedH at hx
      split at hx
      · obtain ⟨y, hy, rfl⟩ := List.mem_map.mp hx
        unfold putAt
        split
        · exact ha y hy
        · exact ha y hy
      · rcases List.mem_append.mp hx with h | h
        · exact ha x h
        · rw [List.mem_singleton] at h
          rw [h]
          exact ⟨kS, kI⟩
    refine wpAny_pure ⟨plainId_quiet ud_plain _, ih (i + 1) (storedH acc q.1 q.2.1 q.2.2) (ix + 1) 0 _ (show items.size = i + 1 + rest.length by omega) ?_ (fun j q' e => ?_) hacc ?_ ?_ m2 fun h' tk dd k => ?_⟩
    · have := storedH_len acc q.1 q.2.1 q.2.2
      omega
    · obtain ⟨b', hb', c1, c2, c3, c4, c5, c6⟩ := ht (j + 1) q' (by simpa using e)
      refine ⟨b', ?_, c1, c2, c3, c4, (c5.extBut sb1.extBut c2).extBut sb2.extBut c1, tk_keep (tk_keep c6 kp1 c4) kp2 c3⟩
      rw [show i + 1 + j = i + (j + 1) by omega]
      exact hb'
    · exact hit1.at fun o' e => sb2.extBut I o' (Ne.symm n2) e
    · exact l1.extBut sb2.extBut (Ne.symm n3)
    · exact hR h' tk dd fun c oc h3 h4 e => k c oc h3 h4 (kp2 c oc h3 (kp1 c oc h4 e))
/-- dict(l) of pairs -/
theorem dict_pairsT {s : Shared} {l : Addr} {ol : Obj} {items : Array Value} {n : Nat} {prs : List (List Key × Addr × Value)} {Q : Value → Shared → Prop} (hu : A.units + 3 < cLine) (hh : A.handled = none) (hl : s.heap.get? l = some ol) (hc : ol.cls = .type "list") (hd : ol.dict = none)
    (hdat : ol.data = .seq items n) (hsz : items.size = prs.length) (hln : prs.length ≤ sizeLine)
    (ht : ∀ (j : Nat) (q : List Key × Addr × Value), prs[j]? = some q → ∃ b : Addr, items[j]? = some (.ref b) ∧ IsTup s.heap b #[.ref q.2.1, q.2.2] ∧ (tupleKind (mixKind prog w)).is s.heap q.1 q.2.1)
    (h : ∀ h' tk, h'.DictOfH (tupleKind (mixKind prog w)) s.heap.objs.size (mergeE [] prs) → (∀ b o, s.heap.get? b = some o → h'.get? b = some o) → Q (.ref s.heap.objs.size) { s with heap := h', toks := tk }) :
    wpAny (model prog w) A (call (.type "dict") [.ref l]) Q E s := by
  refine callType_codes (Q₁ := fun obj s₁ => obj = .ref s.heap.objs.size ∧ s₁ = { s with heap := s.heap.push { cls := .type "dict", data := .dict #[] } }) PySem.F.kt_called_dict (PySem.F.kt_typeCall_dict_1 _) PySem.F.entry_dict_init (kt_code_dict_new _ ⟨rfl, rfl⟩) ?_
  rintro obj s₁ ⟨rfl, rfl⟩
  have e0 : (s.heap.push { cls := .type "dict", data := .dict #[] }).get? s.heap.objs.size = some { cls := .type "dict", data := .dict #[] } := Heap.get?_push_size _ rfl
  have new : (s.heap.push { cls := .type "dict", data := .dict #[] }).DictOfH (tupleKind (mixKind prog w)) s.heap.objs.size [] := ⟨_, #[], _, e0, ⟨rfl, rfl, rfl⟩, rfl, rfl, (fun _ h => by cases h), List.nodup_nil⟩
  have k0 : ∀ b o, s.heap.get? b = some o → (s.heap.push { cls := .type "dict", data := .dict #[] }).get? b = some o := fun b o e => Heap.get?_push_of_some _ e
  have nt : (⟨s.heap.push { cls := .type "dict", data := .dict #[] }, s.gens, s.drawn, s.toks, s.os⟩ : Shared).TypeIs (.ref s.heap.objs.size) "dict" := ⟨_, e0, rfl⟩
  refine ⟨nt, PySem.F.args_dict_init_2 _ _, ?_⟩
  unfold Builtin.«dict.__init__»
  refine wpAny_bind ?_
  unfold Builtin.Dict.selfAndRest
  refine wpAny_bind (wpAny_notOrdered_dict nt ?_)
  show wpAny _ _ (pure (s.heap.objs.size, [Value.ref l])) _ _ _
  refine wpAny_pure ?_
  show wpAny _ _ (Builtin.Dict.updateFrom "dict.__init__" s.heap.objs.size (.ref l) [] .none) _ _ _
  unfold Builtin.Dict.updateFrom
  refine wpAny_bind (wpAny_typeOf (T := "list") ⟨ol, k0 _ _ hl, hc⟩ ?_)
  rw [if_pos (by first | decide | rfl | simp)]
  refine wpAny_bind (miss_list (k0 _ _ hl) hc hdat hd hh fun h1 tk1 k1 => ?_)
  rw [if_pos (show (none : Option Value).isNone = true from rfl)]
  refine wpAny_bind (wpAny_rule ?_)
  have l1 : h1.IsList l items := ⟨ol, k1 _ _ (k0 _ _ hl), hc, n, hdat⟩
  have S1 : s.heap.objs.size < h1.objs.size := Heap.lt_size (k1 _ _ e0)
  refine wpAny_bind (wpAny_pyIter_list l1 ?_)
  have k2 : ∀ b o, h1.get? b = some o → (h1.push { cls := .type "list_iterator", data := .fields #[.ref l, .int 0 0] }).get? b = some o := fun b o e => Heap.get?_push_of_some _ e
  have kk : ∀ b o, s.heap.get? b = some o → (h1.push { cls := .type "list_iterator", data := .fields #[.ref l, .int 0 0] }).get? b = some o := fun b o e => k2 _ _ (k1 _ _ (k0 _ _ e))
  have llt : l < s.heap.objs.size := Heap.lt_size hl
  have small : ∀ {b : Addr}, b < s.heap.objs.size → b ≠ s.heap.objs.size ∧ b ≠ h1.objs.size := fun {b} hb => ⟨Nat.ne_of_lt hb, Nat.ne_of_lt (Nat.lt_trans hb S1)⟩
  have key := ud_loopT (prog := prog) (w := w) (A := A.in1) (R := wants (fun r s₂ => r = .none ∧ Q (.ref s.heap.objs.size) s₂) E) (S := s.heap.objs.size) (I := h1.objs.size) (l := l) (items := items) (res := Value.none) (by show A.units + 1 + 2 < cLine; omega) hh (small llt).2 (Nat.ne_of_lt S1) (Ne.symm (small llt).1) prs 0 [] 0 0
    { s with heap := h1.push { cls := .type "list_iterator", data := .fields #[.ref l, .int 0 0] }, toks := tk1 } (by rw [hsz, Nat.zero_add]) (by rw [List.length_nil, Nat.zero_add]; exact hln)
    (fun j q e => by
      obtain ⟨b, e1, e2, e3⟩ := ht j q e
      obtain ⟨c1, c2⟩ := small e2.lt
      have kb : q.2.1 < s.heap.objs.size := by
        obtain ⟨_, _, _, g1, _⟩ := e3
        exact Heap.lt_size g1
      obtain ⟨c3, c4⟩ := small kb
      refine ⟨b, by rw [Nat.zero_add]; exact e1, c1, c2, c3, c4, e2.keeps fun c o z => kk c o z, ?_⟩
      obtain ⟨o, its, m, g1, g2, g3, g4⟩ := e3
      exact ⟨o, its, m, kk _ _ g1, g2, g3, g4⟩)
    (fun q hq => by cases hq) ⟨_, Heap.get?_push_size _ rfl, rfl, rfl⟩ (l1.at fun o e => k2 _ _ e)
    ⟨_, #[], _, k2 _ _ (k1 _ _ e0), ⟨rfl, rfl, rfl⟩, rfl, rfl, fun _ h => (by cases h), List.nodup_nil⟩
    (fun h' tk dd k => ⟨rfl, h h' tk dd fun b o e => by
      obtain ⟨c1, c2⟩ := small (Heap.lt_size e)
      exact k b o c1 c2 (kk b o e)⟩)
  first
    | exact wpAny_pure ⟨plainId_quiet ud_plain _, key⟩
    | exact wpAny_bind (wpAny_pure (wpAny_pure ⟨plainId_quiet ud_plain _, key⟩))
end
end Ol
set_option Elab.async false
set_option linter.all false
set_option maxRecDepth 100000
set_option maxHeartbeats 4000000
/-! own: dict(pairs) as a rule -/
namespace Ol
open PySem PySem.Spec PyProof.Rows L2
section
variable {X : Cx}
theorem pairs_told {pins : List (Addr × Obj)} {σ : L2.St} {H : Hp} {s : Shared} (I : Inv X pins σ H s) : ∀ {ps : List Addr} {ks : KE3}, Paired (fun p q => SqT X.K H p [.ref q.2.1, q.2.2]) ps ks → Kns X.K H ks →
    ∃ prs : List (List Key × Addr × Value), Paired EntR ks prs ∧ prs.length = ps.length ∧ ∀ (j : Nat) (q : List Key × Addr × Value), prs[j]? = some q → ∃ b : Addr, ps[j]? = some b ∧ IsTup s.heap b #[.ref q.2.1, q.2.2] ∧ (tupleKind (mixKind X.prog X.w)).is s.heap q.1 q.2.1 := by
  intro ps ks r
  induction r with
  | nil => intro _; exact ⟨[], .nil, rfl, fun j q e => by simp at e⟩
  | @cons p q ps ks h _ ih =>
    intro kn
    obtain ⟨prs, r, hl, hp⟩ := ih fun x hx => kn x (List.mem_cons_of_mem _ hx)
    obtain ⟨its, rv, ht, _⟩ := I.tuple h
    obtain ⟨u, y, rfl, ru, ry⟩ := vals2 rv
    cases (show u = Value.ref q.2.1 from ru)
    refine ⟨(q.1, q.2.1, y) :: prs, .cons ⟨rfl, rfl, ry⟩ r, by rw [List.length_cons, List.length_cons, hl], fun j x e => ?_⟩
    cases j with
    | zero =>
      have e' : (q.1, q.2.1, y) = x := Option.some.inj e
      subst e'
      exact ⟨p, rfl, ht, key_told I (kn q List.mem_cons_self)⟩
    | succ j =>
      obtain ⟨b, e1, e2, e3⟩ := hp j x (by simpa using e)
      exact ⟨b, by simpa using e1, e2, e3⟩
theorem mergeT_len : ∀ (ps ks : KE3), (mergeT ks ps).length ≤ ks.length + ps.length
  | [], ks => by simp [mergeT]
  | q :: r, ks => by
    have h1 := mergeT_len r (putT ks q.1 q.2.1 q.2.2)
    have h2 := putT_len ks q.1 q.2.1 q.2.2
    rw [List.length_cons]
    unfold mergeT
    omega
def rDictT (K : PySem.W.Frag) (P : Program) (w : World) : List V → Hp → VK → Prop := fun xs H Q => ∃ (a : Addr) (ps : List Addr) (ks : KE3), xs = [V.ref a] ∧ SqL K H a (ps.map V.ref) ∧ Paired (fun p q => SqT K H p [.ref q.2.1, q.2.2]) ps ks ∧ Kns K H ks ∧
    ∀ p, H p = none → Q (.ref p) (upd H p (DtO P w p (mergeT [] ks)))
theorem call_dictDt (hu : X.A.units + 3 < cLine) (hc : X.calm = true) : CallR X (.type "dict") (rDictT X.K X.prog X.w) := by
  intro pins s σ H xs us Q I r q
  obtain ⟨a, ps, ks, rfl, hq, hp, kn, q⟩ := q
  obtain ⟨u, rfl, rx⟩ := vals1 r
  cases rx
  obtain ⟨its, rv, pl, hz⟩ := I.list hq
  have ei := refs_at rv
  subst ei
  rw [List.length_map] at hz
  obtain ⟨prs, rel, hl, hpr⟩ := pairs_told I hp kn
  obtain ⟨o, n, ho, hcl, hd, hdat⟩ := pl
  refine dict_pairsT (prs := prs) hu (I.ok.hd hc) ho hcl hd hdat (by simp [hl]) (by rw [hl]; exact hz) (fun j x e => ?_) fun h' tk dd k => ?_
  · obtain ⟨b, e1, e2, e3⟩ := hpr j x e
    exact ⟨b, by simp [e1], e2, e3⟩
  · have hs : (s.heap.objs.size == sysModules) = false := beq_eq_false_iff_ne.mpr (Nat.ne_of_gt I.big)
    have hlen := mergeT_len ks []
    have hl2 : ks.length = prs.length := Paired.length rel
    obtain ⟨ob, es, ep, g1, g2, g3, g4, _, g5⟩ := dd
    refine ⟨.ref s.heap.objs.size, _, I.laid (t' := tk) (o := DtO X.prog X.w s.heap.objs.size (mergeT [] ks)) k (Nat.le_refl _) (rawT_ok ?_), rfl, q _ (I.hok.fresh (Nat.le_refl _))⟩
    exact ⟨by rw [List.length_nil] at hlen; omega, hs, _, ent_merge rel .nil, ob, es, ep, g1, g2, g3, g4, g5⟩
end
end Ol
set_option Elab.async false
set_option linter.all false
set_option maxRecDepth 100000
set_option maxHeartbeats 4000000
/-! own: readings by data. Hb is what is known and stands still; owned cells lie outside of it -/
namespace Ol
open PySem PySem.Spec PyProof.Rows L2
abbrev Fg := PySem.W.Frag
abbrev D := PyData
def Ex (H H' : Hp) : Prop := ∀ a o, H a = some o → H' a = some o
theorem Ex.rfl {H : Hp} : Ex H H := fun _ _ h => h
theorem Ex.trans {H H1 H2 : Hp} (a : Ex H H1) (b : Ex H1 H2) : Ex H H2 := fun x o h => b x o (a x o h)
theorem Ex.new {H : Hp} {p : Addr} {o : HO} (h : H p = none) : Ex H (upd H p o) := fun a u e => by
  rw [upd_ne (ne_of_none e h)]
  exact e
theorem Ex.free {H H' : Hp} {p : Addr} (e : Ex H H') (h : H' p = none) : H p = none := by
  cases q : H p with
  | none => rfl
  | some o => rw [e p o q] at h; cases h
theorem Ex.some' {H H' : Hp} {p : Addr} (e : Ex H H') (h : H p ≠ none) : H' p ≠ none := by
  intro z
  exact h (e.free z)
/-- an owned cell is written: what is known stands -/
theorem Ex.own {H H' : Hp} {p : Addr} {o : HO} (e : Ex H H') (h : H p = none) : Ex H (upd H' p o) := fun a u q => by
  rw [upd_ne (ne_of_none q h)]
  exact e a u q
theorem upd_ex {H H' : Hp} {p : Addr} {o : HO} (e : Ex H H') (h : H' p = some o) : Ex (upd H p o) H' := fun a u q => by
  by_cases z : a = p
  · subst z
    rw [upd_same] at q
    rw [← Option.some.inj q]
    exact h
  · rw [upd_ne z] at q
    exact e a u q
/-! ### data; of a tuple of texts it is told that its object has no dict -/
def isS : D → Bool
  | .str _ => true
  | _ => false
mutual
inductive Dp (K : Fg) (H : Hp) : V → D → Prop
  | non : Dp K H .non .none
  | bl (b : Bool) : Dp K H (.bl b) (.bool b)
  | int (i : Int) : Dp K H (.int i) (.int i)
  | str (x : Str) : Dp K H (.str x) (.str x)
  | lst {a : Addr} {xs : List V} {ds : List D} : SqL K H a xs → DpAll K H xs ds → Dp K H (.ref a) (.list ds)
  | tup {a : Addr} {xs : List V} {ds : List D} : SqT K H a xs → DpAll K H xs ds → (ds.all isS = true → NoD H a) → Dp K H (.ref a) (.tuple ds)
inductive DpAll (K : Fg) (H : Hp) : List V → List D → Prop
  | nil : DpAll K H [] []
  | cons {v : V} {vs : List V} {d : D} {ds : List D} : Dp K H v d → DpAll K H vs ds → DpAll K H (v :: vs) (d :: ds)
end
mutual
theorem Dp.toL {K : Fg} {H : Hp} : ∀ {d : D} {v : V}, Dp K H v d → L2.Dp K H v d
  | .none, _, h => by cases h; exact .non
  | .bool b, _, h => by cases h; exact .bl b
  | .int i, _, h => by cases h; exact .int i
  | .str x, _, h => by cases h; exact .str x
  | .list ds, _, h => by cases h with | lst hs ha => exact .lst hs (DpAll.toL ha)
  | .tuple ds, _, h => by cases h with | tup hs ha _ => exact .tup hs (DpAll.toL ha)
  | .dict _, _, h => by cases h
theorem DpAll.toL {K : Fg} {H : Hp} : ∀ {ds : List D} {vs : List V}, DpAll K H vs ds → L2.DpAll K H vs ds
  | [], _, h => by cases h; exact .nil
  | d :: ds, _, h => by cases h with | cons a b => exact .cons (Dp.toL a) (DpAll.toL b)
end
theorem NoD.ex {H H' : Hp} {a : Addr} (e : Ex H H') (h : NoD H a) : NoD H' a := by
  obtain ⟨ob, xs, h1, h2⟩ := h
  exact ⟨ob, xs, e a _ h1, h2⟩
theorem NoD.of {H : Hp} {p : Addr} {ob : Obj} {xs : List V} (h : ob.dict = none) : NoD (upd H p (.frz ob (.tup xs))) p := ⟨ob, xs, upd_same, h⟩
theorem sqt_new {K : Fg} {H : Hp} {p : Addr} {ob : Obj} {xs : List V} : SqT K (upd H p (.frz ob (.tup xs))) p xs := .inl (.inr ⟨ob, upd_same⟩)
/-! ### data stands -/
theorem rd_ex {H H' : Hp} {a : Addr} {u : HO} (e : Ex H H') (h : Rd H a u) : Rd H' a u := by
  rcases h with h | ⟨o, h⟩
  · exact .inl (e a _ h)
  · exact .inr ⟨o, e a _ h⟩
theorem sql_ex {K : Fg} {H H' : Hp} {a : Addr} {xs : List V} (e : Ex H H') (h : SqL K H a xs) : SqL K H' a xs := h.imp (rd_ex e) id
theorem sqt_ex {K : Fg} {H H' : Hp} {a : Addr} {xs : List V} (e : Ex H H') (h : SqT K H a xs) : SqT K H' a xs := h.imp (rd_ex e) id
mutual
theorem Dp.ex {K : Fg} {H H' : Hp} (e : Ex H H') : ∀ {d : D} {v : V}, Dp K H v d → Dp K H' v d
  | .none, _, h => by cases h; exact .non
  | .bool b, _, h => by cases h; exact .bl b
  | .int i, _, h => by cases h; exact .int i
  | .str x, _, h => by cases h; exact .str x
  | .list ds, _, h => by cases h with | lst hs ha => exact .lst (sql_ex e hs) (DpAll.ex e ha)
  | .tuple ds, _, h => by cases h with | tup hs ha hn => exact .tup (sqt_ex e hs) (DpAll.ex e ha) fun z => (hn z).ex e
  | .dict _, _, h => by cases h
theorem DpAll.ex {K : Fg} {H H' : Hp} (e : Ex H H') : ∀ {ds : List D} {vs : List V}, DpAll K H vs ds → DpAll K H' vs ds
  | [], _, h => by cases h; exact .nil
  | d :: ds, _, h => by cases h with | cons a b => exact .cons (Dp.ex e a) (DpAll.ex e b)
end
theorem DpAll.length {K : Fg} {H : Hp} : ∀ {vs : List V} {ds : List D}, DpAll K H vs ds → vs.length = ds.length
  | _, _, .nil => rfl
  | _, _, .cons _ t => congrArg Nat.succ (DpAll.length t)
theorem DpAll.get {K : Fg} {H : Hp} : ∀ {vs : List V} {ds : List D} {i : Nat} {d : D}, DpAll K H vs ds → ds[i]? = some d → ∃ v, vs[i]? = some v ∧ Dp K H v d
  | _, _, _, _, .nil, e => by simp at e
  | _, _, 0, _, .cons r _, e => by
    simp at e
    subst e
    exact ⟨_, rfl, r⟩
  | _, _, i + 1, d, .cons _ t, e => by
    obtain ⟨v, h1, h2⟩ := DpAll.get (i := i) (d := d) t (by simpa using e)
    exact ⟨v, by simpa using h1, h2⟩
theorem DpAll.append {K : Fg} {H : Hp} : ∀ {xs ys : List V} {ds es : List D}, DpAll K H xs ds → DpAll K H ys es → DpAll K H (xs ++ ys) (ds ++ es)
  | _, _, _, _, .nil, s => s
  | _, _, _, _, .cons r t, s => .cons r (DpAll.append t s)
theorem DpAll.take {K : Fg} {H : Hp} : ∀ {xs : List V} {ds : List D} (n : Nat), DpAll K H xs ds → DpAll K H (xs.take n) (ds.take n)
  | _, _, 0, _ => .nil
  | _, _, _ + 1, .nil => .nil
  | _, _, n + 1, .cons r t => .cons r (DpAll.take n t)
theorem DpAll.drop {K : Fg} {H : Hp} : ∀ {xs : List V} {ds : List D} (n : Nat), DpAll K H xs ds → DpAll K H (xs.drop n) (ds.drop n)
  | _, _, 0, r => r
  | _, _, _ + 1, .nil => .nil
  | _, _, n + 1, .cons _ t => DpAll.drop n t
theorem DpAll.set {K : Fg} {H : Hp} {v : V} {d : D} (r : Dp K H v d) : ∀ {xs : List V} {ds : List D} (i : Nat), DpAll K H xs ds → DpAll K H (xs.set i v) (ds.set i d)
  | _, _, _, .nil => .nil
  | _, _, 0, .cons _ t => .cons r t
  | _, _, i + 1, .cons q t => .cons q (DpAll.set r i t)
theorem DpAll.eraseIdx {K : Fg} {H : Hp} : ∀ {xs : List V} {ds : List D} (i : Nat), DpAll K H xs ds → DpAll K H (xs.eraseIdx i) (ds.eraseIdx i)
  | _, _, _, .nil => .nil
  | _, _, 0, .cons _ t => t
  | _, _, i + 1, .cons q t => .cons q (DpAll.eraseIdx i t)
theorem DpAll.dropLast {K : Fg} {H : Hp} : ∀ {xs : List V} {ds : List D}, DpAll K H xs ds → DpAll K H xs.dropLast ds.dropLast
  | _, _, .nil => .nil
  | _, _, .cons r .nil => .nil
  | _, _, .cons r (.cons q t) => .cons r (DpAll.dropLast (.cons q t))
theorem DpAll.reverse {K : Fg} {H : Hp} : ∀ {xs : List V} {ds : List D}, DpAll K H xs ds → DpAll K H xs.reverse ds.reverse
  | _, _, .nil => .nil
  | _, _, .cons r t => by rw [List.reverse_cons, List.reverse_cons]; exact DpAll.append (DpAll.reverse t) (.cons r .nil)
theorem DpAll.cut {K : Fg} {H : Hp} {xs : List V} {ds : List D} (h : DpAll K H xs ds) (lo hi : Option Int) : DpAll K H (cutV xs lo hi) ((ds.drop (HT.sIx ds.length 0 lo)).take (HT.sIx ds.length ds.length hi - HT.sIx ds.length 0 lo)) := by
  unfold cutV
  rw [DpAll.length h]
  exact DpAll.take _ (DpAll.drop _ h)
/-! flat data -/
theorem DpAll.strs {K : Fg} {H : Hp} : ∀ (l : List Str), DpAll K H (l.map V.str) (l.map PyData.str)
  | [] => .nil
  | x :: l => .cons (.str x) (DpAll.strs l)
theorem DpAll.ints {K : Fg} {H : Hp} : ∀ (l : List Int), DpAll K H (l.map V.int) (l.map PyData.int)
  | [] => .nil
  | x :: l => .cons (.int x) (DpAll.ints l)
theorem DpAll.bls {K : Fg} {H : Hp} : ∀ (l : List Bool), DpAll K H (l.map V.bl) (l.map PyData.bool)
  | [] => .nil
  | x :: l => .cons (.bl x) (DpAll.bls l)
theorem DpAll.strs_inv {K : Fg} {H : Hp} : ∀ {l : List Str} {vs : List V}, DpAll K H vs (l.map PyData.str) → vs = l.map V.str
  | [], _, .nil => rfl
  | x :: l, _, .cons r t => by cases r; rw [DpAll.strs_inv t]; rfl
theorem DpAll.ints_inv {K : Fg} {H : Hp} : ∀ {l : List Int} {vs : List V}, DpAll K H vs (l.map PyData.int) → vs = l.map V.int
  | [], _, .nil => rfl
  | x :: l, _, .cons r t => by cases r; rw [DpAll.ints_inv t]; rfl
theorem DpAll.bls_inv {K : Fg} {H : Hp} : ∀ {l : List Bool} {vs : List V}, DpAll K H vs (l.map PyData.bool) → vs = l.map V.bl
  | [], _, .nil => rfl
  | x :: l, _, .cons r t => by cases r; rw [DpAll.bls_inv t]; rfl
/-! ### from what is known to what stands -/
/-- Hb, H: known, the heap; Hb', H': behind. S: the owned cells that may have changed -/
structure Ny (S : Addr → Prop) (Hb H Hb' H' : Hp) : Prop where
  kb : Ex Hb Hb'
  sub : Ex Hb' H'
  kh : ∀ a o, ¬ S a → H a = some o → H' a = some o
  al : ∀ a, H a ≠ none → H' a ≠ none
  fr : ∀ a, H a ≠ none → Hb a = none → Hb' a = none
abbrev Nx := Ny fun _ => False
theorem Nx.mk' {Hb H Hb' H' : Hp} (kb : Ex Hb Hb') (sub : Ex Hb' H') (kh : Ex H H') (fr : ∀ a, H a ≠ none → Hb a = none → Hb' a = none) : Nx Hb H Hb' H' :=
  ⟨kb, sub, fun a o _ e => kh a o e, fun a e => kh.some' e, fr⟩
theorem Ny.ex {Hb H Hb' H' : Hp} (n : Nx Hb H Hb' H') : Ex H H' := fun a o e => n.kh a o id e
theorem Ny.refl {S : Addr → Prop} {Hb H : Hp} (e : Ex Hb H) : Ny S Hb H Hb H := ⟨.rfl, e, fun _ _ _ h => h, fun _ h => h, fun _ _ h => h⟩
theorem Ny.trans {S : Addr → Prop} {Hb H Hb1 H1 Hb2 H2 : Hp} (a : Ny S Hb H Hb1 H1) (b : Ny S Hb1 H1 Hb2 H2) : Ny S Hb H Hb2 H2 :=
  ⟨a.kb.trans b.kb, b.sub, fun x o s e => b.kh x o s (a.kh x o s e), fun x e => b.al x (a.al x e), fun x e n => b.fr x (a.al x e) (a.fr x e n)⟩
theorem Ny.to {S : Addr → Prop} {Hb H Hb' H' : Hp} (n : Nx Hb H Hb' H') : Ny S Hb H Hb' H' := ⟨n.kb, n.sub, fun a o _ e => n.kh a o id e, n.al, n.fr⟩
/-- what has come to be known is let go -/
theorem Ny.less {S : Addr → Prop} {Hb H Hb' H' : Hp} (n : Ny S Hb H Hb' H') : Ny S Hb H Hb H' := ⟨.rfl, n.kb.trans n.sub, n.kh, n.al, fun _ _ h => h⟩
/-- a new object that is known from now on -/
theorem Nx.new {Hb H : Hp} {p : Addr} {o : HO} (e : Ex Hb H) (h : H p = none) : Nx Hb H (upd Hb p o) (upd H p o) :=
  Nx.mk' (Ex.new (e.free h)) (fun a u q => by
    by_cases z : a = p
    · subst z; rw [upd_same] at q ⊢; exact q
    · rw [upd_ne z] at q ⊢; exact e a u q) (Ex.new h) fun a ha n => by
    have z : a ≠ p := fun z => ha (z ▸ h)
    rw [upd_ne z]
    exact n
/-- a new object that is owned -/
theorem Nx.newOwn {Hb H : Hp} {p : Addr} {o : HO} (e : Ex Hb H) (h : H p = none) : Nx Hb H Hb (upd H p o) := Nx.mk' .rfl (e.trans (Ex.new h)) (Ex.new h) fun _ _ n => n
/-- an owned object comes to be known -/
theorem Ny.know {S : Addr → Prop} {Hb H Hb' H' : Hp} {p : Addr} {o : HO} (n : Ny S Hb H Hb' H') (h0 : H p = none) (h1 : Hb' p = none) (h2 : H' p = some o) : Ny S Hb H (upd Hb' p o) H' :=
  ⟨n.kb.trans (Ex.new h1), upd_ex n.sub h2, n.kh, n.al, fun a ha e => by
    have z : a ≠ p := fun z => ha (z ▸ h0)
    rw [upd_ne z]
    exact n.fr a ha e⟩
/-- the union of what is known by two ways -/
def join (A B : Hp) : Hp := fun a => match A a with
  | some o => some o
  | none => B a
theorem join_l {A B : Hp} : Ex A (join A B) := fun a o e => by unfold join; rw [e]
theorem join_r {A B H : Hp} (h1 : Ex A H) (h2 : Ex B H) : Ex B (join A B) := fun a o e => by
  unfold join
  cases q : A a with
  | none => exact e
  | some u =>
    have z := (h1 a u q).symm.trans (h2 a o e)
    exact z
theorem join_sub {A B H : Hp} (h1 : Ex A H) (h2 : Ex B H) : Ex (join A B) H := fun a o e => by
  unfold join at e
  cases q : A a with
  | none => rw [q] at e; exact h2 a o e
  | some u => rw [q] at e; rw [← Option.some.inj e]; exact h1 a u q
theorem Nx.base {S : Addr → Prop} {Hb H Hb1 H1 Hb0 : Hp} (n : Ny S Hb H Hb1 H1) (e : Ex Hb Hb0) (e0 : Ex Hb0 H) (h1 : Ex Hb0 H1) : Ny S Hb0 H (join Hb0 Hb1) H1 :=
  ⟨join_l, join_sub h1 n.sub, n.kh, n.al, fun a ha z => by
    unfold join
    rw [z]
    exact n.fr a ha (e.free z)⟩
end Ol
set_option Elab.async false
set_option linter.all false
set_option maxRecDepth 100000
set_option maxHeartbeats 4000000
/-! own: what the code computes, as plain functions over slots; objects that one slot alone holds; and how such functions stand to the layer's readings -/
namespace Ol
open PySem PySem.Spec PyProof.Rows L2
/-- an object that can change -/
inductive Ob where
  | lst (xs : List D) | set (ks : List Key) | dic (kvs : List (Key × D)) | dit (kvs : List (List Str × D))
/-- a slot: data, or an object that it alone holds (pin: a parameter's) -/
inductive SV where
  | d (x : D) | own (pin : Bool) (o : Ob)
/-- a value on the way -/
inductive PV where
  | d (x : D) | new (o : Ob) | slot (i : Nat) | tup (xs : List PV)
abbrev Env := List (Option SV)
/-- a value as it is read -/
inductive RV where
  | d (x : D) | s (ks : List Key) | m (kvs : List (Key × D)) | t (kvs : List (List Str × D))
abbrev ME := Env → Option (PV × Env)
abbrev MT := Env → Option (Bool × Env)
abbrev MA := Env → Option (List PV × Env)
abbrev Fn := List SV → Option (PV × List (Option Ob))
inductive Rs where
  | nx (e : Env) | ret (v : PV) (e : Env) | bk (e : Env) | ct (e : Env)
abbrev MS := Env → Option Rs
@[simp] def Ob.rv : Ob → RV
  | .lst xs => .d (.list xs)
  | .set ks => .s ks
  | .dic kvs => .m kvs
  | .dit kvs => .t kvs
@[simp] def sget : Env → Nat → Option SV
  | [], _ => none
  | x :: _, 0 => x
  | _ :: r, n + 1 => sget r n
@[simp] def sset : Env → Nat → Option SV → Env
  | [], _, _ => []
  | _ :: r, 0, y => y :: r
  | x :: r, n + 1, y => x :: sset r n y
theorem sget_set_ne {x : Option SV} : ∀ {e : Env} {i j : Nat}, i ≠ j → sget (sset e i x) j = sget e j
  | [], _, _, _ => rfl
  | _ :: _, 0, 0, h => absurd rfl h
  | _ :: _, 0, _ + 1, _ => rfl
  | _ :: _, _ + 1, 0, _ => rfl
  | _ :: r, i + 1, j + 1, h => sget_set_ne (e := r) fun z => h (congrArg Nat.succ z)
theorem sget_set_some {x : Option SV} {sv : SV} : ∀ {e : Env} {i : Nat}, sget (sset e i x) i = some sv → x = some sv
  | [], _, h => by cases h
  | _ :: _, 0, h => h
  | _ :: r, i + 1, h => sget_set_some (e := r) (i := i) h
theorem sget_set_self {x : Option SV} : ∀ {e : Env} {i : Nat}, i < e.length → sget (sset e i x) i = x
  | [], _, h => by simp at h
  | _ :: _, 0, _ => rfl
  | _ :: r, i + 1, h => sget_set_self (e := r) (i := i) (by simpa using h)
theorem sset_length {x : Option SV} : ∀ {e : Env} {i : Nat}, (sset e i x).length = e.length
  | [], _ => rfl
  | _ :: _, 0 => rfl
  | _ :: r, i + 1 => congrArg Nat.succ (sset_length (e := r) (i := i))
@[simp] def rd (env : Env) : PV → Option RV
  | .d x => some (.d x)
  | .new o => some o.rv
  | .slot i => match sget env i with
    | some (.own _ o) => some o.rv
    | _ => none
  | .tup _ => none
/-- put into a container, for good -/
@[simp] def fz : PV → Option D
  | .d x => some x
  | .new (.lst xs) => some (.list xs)
  | _ => none
@[simp] def fzs : List PV → Option (List D)
  | [] => some []
  | x :: r => (fz x).bind fun d => (fzs r).bind fun ds => some (d :: ds)
structure Zn where
  K : Fg
  P : Program
  w : World
abbrev zn (X : Cx) : Zn := ⟨X.K, X.prog, X.w⟩
/-- the keys of a dict with tuple keys are told, its values are data -/
inductive DtR (K : Fg) (Hb : Hp) : KE3 → List (List Str × D) → Prop
  | nil : DtR K Hb [] []
  | cons {k : List Str} {b : Addr} {v : V} {d : D} {ks : KE3} {kvs : List (List Str × D)} : Dp K Hb (.ref b) (.tuple (k.map .str)) → Dp K Hb v d → DtR K Hb ks kvs → DtR K Hb ((k.map .inr, b, v) :: ks) ((k, d) :: kvs)
theorem DtR.ex {K : Fg} {Hb Hb' : Hp} (e : Ex Hb Hb') {ks : KE3} {kvs : List (List Str × D)} (r : DtR K Hb ks kvs) : DtR K Hb' ks kvs := by
  induction r with
  | nil => exact .nil
  | cons a b _ ih => exact .cons (Dp.ex e a) (Dp.ex e b) ih
inductive OwnR (Z : Zn) (Hb H : Hp) (p : Addr) : Ob → Prop
  | lst {ds xs} : H p = some (.lst xs) → DpAll Z.K Hb xs ds → OwnR Z Hb H p (.lst ds)
  | set {ks} : H p = some (SetK Z.P Z.w p (memb ks) (dist ks).length) → OwnR Z Hb H p (.set ks)
  | dic {kvs} {us : List (Key × V)} : H p = some (.dK us) → us.map (·.1) = kvs.map (·.1) → DpAll Z.K Hb (us.map (·.2)) (kvs.map (·.2)) → OwnR Z Hb H p (.dic kvs)
  | dit {kvs ks} : H p = some (DtO Z.P Z.w p ks) → DtR Z.K Hb ks kvs → OwnR Z Hb H p (.dit kvs)
inductive RdR (Z : Zn) (Hb H : Hp) : V → RV → Prop
  | non : RdR Z Hb H .non (.d .none)
  | bl (b : Bool) : RdR Z Hb H (.bl b) (.d (.bool b))
  | int (i : Int) : RdR Z Hb H (.int i) (.d (.int i))
  | str (x : Str) : RdR Z Hb H (.str x) (.d (.str x))
  | lst {p xs ds} : SqL Z.K H p xs → DpAll Z.K Hb xs ds → RdR Z Hb H (.ref p) (.d (.list ds))
  | tup {p xs ds} : SqT Z.K Hb p xs → DpAll Z.K Hb xs ds → (ds.all isS = true → NoD Hb p) → RdR Z Hb H (.ref p) (.d (.tuple ds))
  | s {p ks} : OwnR Z Hb H p (.set ks) → RdR Z Hb H (.ref p) (.s ks)
  | m {p kvs} : OwnR Z Hb H p (.dic kvs) → RdR Z Hb H (.ref p) (.m kvs)
  | t {p kvs} : OwnR Z Hb H p (.dit kvs) → RdR Z Hb H (.ref p) (.t kvs)
/-- the call's entry: what was known, the heap, the parameters' own cells -/
structure Bs where
  Hb0 : Hp
  H0 : Hp
  P : Nat → Addr → Prop
def Bs.S (B : Bs) (p : Addr) : Prop := ∃ i, B.P i p
def SlotR (Z : Zn) (B : Bs) (Hb H : Hp) (σ : L2.St) (i : Nat) : SV → Prop
  | .d x => ∃ v, σ[i]? = some (some v) ∧ Dp Z.K Hb v x
  | .own b o => ∃ p, σ[i]? = some (some (.ref p)) ∧ Hb p = none ∧ OwnR Z Hb H p o ∧ (b = true → B.P i p) ∧ (b = false → B.H0 p = none)
structure Sta (Z : Zn) (B : Bs) (Hb H : Hp) (σ : L2.St) (env : Env) : Prop where
  ny : Ny B.S B.Hb0 B.H0 Hb H
  sl : ∀ i sv, sget env i = some sv → SlotR Z B Hb H σ i sv
  df : ∀ i j p b o b' o', sget env i = some (.own b o) → sget env j = some (.own b' o') → σ[i]? = some (some (.ref p)) → σ[j]? = some (some (.ref p)) → i = j
  len : σ.length = env.length
def Ow (env : Env) (σ : L2.St) (p : Addr) : Prop := ∃ i b o, sget env i = some (.own b o) ∧ σ[i]? = some (some (.ref p))
mutual
/-- H0: the heap ahead of the evaluation -/
inductive VR (Z : Zn) (H0 Hb H : Hp) (σ : L2.St) : V → PV → Prop
  | d {v x} : Dp Z.K Hb v x → VR Z H0 Hb H σ v (.d x)
  | new {p o} : H0 p = none → Hb p = none → OwnR Z Hb H p o → VR Z H0 Hb H σ (.ref p) (.new o)
  | slot {v i} : σ[i]? = some (some v) → VR Z H0 Hb H σ v (.slot i)
  | tup {a vs xs ps} : SqT Z.K Hb a vs → VRs Z H0 Hb H σ vs xs ps → VR Z H0 Hb H σ (.ref a) (.tup xs)
inductive VRs (Z : Zn) (H0 Hb H : Hp) (σ : L2.St) : List V → List PV → List Addr → Prop
  | nil : VRs Z H0 Hb H σ [] [] []
  | d {v x vs xs ps} : Dp Z.K Hb v x → VRs Z H0 Hb H σ vs xs ps → VRs Z H0 Hb H σ (v :: vs) (.d x :: xs) ps
  | new {p o vs xs ps} : H0 p = none → Hb p = none → OwnR Z Hb H p o → p ∉ ps → VRs Z H0 Hb H σ vs xs ps → VRs Z H0 Hb H σ (.ref p :: vs) (.new o :: xs) (p :: ps)
  | slot {v i vs xs ps} : σ[i]? = some (some v) → VRs Z H0 Hb H σ vs xs ps → VRs Z H0 Hb H σ (v :: vs) (.slot i :: xs) ps
end
structure Go (Z : Zn) (B : Bs) (σ : L2.St) (env : Env) (Hb H : Hp) (env' : Env) (Hb' H' : Hp) : Prop where
  ny : Ny (Ow env σ) Hb H Hb' H'
  st : Sta Z B Hb' H' σ env'
  ow : ∀ p, Ow env' σ p → Ow env σ p
def tI (Z : Zn) (m : ME) : TE := fun σ H Q => ∃ B Hb env pv env', Sta Z B Hb H σ env ∧ m env = some (pv, env') ∧ ∀ v Hb' H', Go Z B σ env Hb H env' Hb' H' → VR Z H Hb' H' σ v pv → Q v H'
def tIT (Z : Zn) (m : MT) : TT := fun σ H Q => ∃ B Hb env b env', Sta Z B Hb H σ env ∧ m env = some (b, env') ∧ ∀ Hb' H', Go Z B σ env Hb H env' Hb' H' → Q b H'
def tIA (Z : Zn) (m : MA) : TA := fun σ H Q => ∃ B Hb env pvs env', Sta Z B Hb H σ env ∧ m env = some (pvs, env') ∧ ∀ vs ps Hb' H', Go Z B σ env Hb H env' Hb' H' → VRs Z H Hb' H' σ vs pvs ps → Q vs H'
section
variable {Z : Zn} {B : Bs} {Hb H Hb1 H1 Hb' H' H0 : Hp} {σ : L2.St} {env env1 env' : Env} {p : Addr} {o : Ob} {v : V} {pv : PV} {vs : List V} {pvs : List PV} {ps : List Addr}
theorem OwnR.some (h : OwnR Z Hb H p o) : H p ≠ none := by
  cases h with
  | lst e _ => rw [e]; simp
  | set e => rw [e]; simp
  | dic e _ _ => rw [e]; simp
  | dit e _ => rw [e]; simp
theorem OwnR.at (h : OwnR Z Hb H p o) (e : Ex Hb Hb') (k : ∀ u, H p = Option.some u → H' p = Option.some u) : OwnR Z Hb' H' p o := by
  cases h with
  | lst q r => exact .lst (k _ q) (DpAll.ex e r)
  | set q => exact .set (k _ q)
  | dic q z r => exact .dic (k _ q) z (DpAll.ex e r)
  | dit q r => exact .dit (k _ q) (r.ex e)
theorem Ow.some (st : Sta Z B Hb H σ env) (h : Ow env σ p) : H p ≠ none ∧ Hb p = none := by
  obtain ⟨i, b, o, h1, h2⟩ := h
  obtain ⟨q, e, n, r, _⟩ := st.sl i _ h1
  rw [h2] at e
  cases e
  exact ⟨r.some, n⟩
theorem Sta.sub (st : Sta Z B Hb H σ env) : Ex Hb H := st.ny.sub
/-- behind a step that leaves the slots' own cells as they are -/
theorem Sta.step (st : Sta Z B Hb H σ env) (n : Nx Hb H Hb' H') : Sta Z B Hb' H' σ env :=
  ⟨st.ny.trans n.to, fun i sv e => by
    have q := st.sl i sv e
    cases sv with
    | d x => obtain ⟨v, h1, h2⟩ := q; exact ⟨v, h1, Dp.ex n.kb h2⟩
    | own b o => obtain ⟨p, h1, h2, h3, h4⟩ := q; exact ⟨p, h1, n.fr p h3.some h2, h3.at n.kb fun u z => n.kh _ _ id z, h4⟩, st.df, st.len⟩
theorem Go.refl (st : Sta Z B Hb H σ env) : Go Z B σ env Hb H env Hb H := ⟨.refl st.sub, st, fun _ h => h⟩
theorem Ny.mono {S T : Addr → Prop} (n : Ny S Hb H Hb' H') (h : ∀ a, S a → T a) : Ny T Hb H Hb' H' := ⟨n.kb, n.sub, fun a o s e => n.kh a o (fun z => s (h a z)) e, n.al, n.fr⟩
theorem Go.trans (g : Go Z B σ env Hb H env1 Hb1 H1) (g' : Go Z B σ env1 Hb1 H1 env' Hb' H') : Go Z B σ env Hb H env' Hb' H' :=
  ⟨g.ny.trans (g'.ny.mono g.ow), g'.st, fun p h => g.ow p (g'.ow p h)⟩
theorem Go.nx (g : Go Z B σ env Hb H env1 Hb1 H1) (n : Nx Hb1 H1 Hb' H') : Go Z B σ env Hb H env1 Hb' H' := ⟨g.ny.trans n.to, g.st.step n, g.ow⟩
theorem Ny.base {S T : Addr → Prop} {Hb0 : Hp} (a : Ny S Hb0 H0 Hb H) (b : Ny T Hb H Hb' H') (h : ∀ p, T p → ¬ S p → H0 p = none) : Ny S Hb0 H0 Hb' H' :=
  ⟨a.kb.trans b.kb, b.sub, fun x o s e => b.kh x o (fun t => by rw [h x t s] at e; cases e) (a.kh x o s e), fun x e => b.al x (a.al x e), fun x e n => b.fr x (a.al x e) (a.fr x e n)⟩
theorem Sta.own0 (st : Sta Z B Hb H σ env) : ∀ p, Ow env σ p → ¬ B.S p → B.H0 p = none := fun p ⟨i, b, o, h1, h2⟩ ns => by
  obtain ⟨q, e, _, _, t, f⟩ := st.sl i _ h1
  rw [h2] at e
  cases e
  cases b with
  | true => exact absurd ⟨i, t rfl⟩ ns
  | false => exact f rfl
/-- a value that is told stays told -/
theorem VR.keep (h0 : ∀ p, Ow env σ p → H0 p ≠ none) (n : Ny (Ow env σ) Hb H Hb' H') : VR Z H0 Hb H σ v pv → VR Z H0 Hb' H' σ v pv := by
  have lists : ∀ {vs : List V} {pvs : List PV} {ps : List Addr}, VRs Z H0 Hb H σ vs pvs ps → VRs Z H0 Hb' H' σ vs pvs ps := by
    intro vs pvs
    induction pvs generalizing vs with
    | nil => intro ps h; cases h; exact .nil
    | cons x r ih =>
      intro ps h
      cases h with
      | d a t => exact .d (Dp.ex n.kb a) (ih t)
      | new a b c e t => exact .new a (n.fr _ c.some b) (c.at n.kb fun u z => n.kh _ _ (fun s => h0 _ s a) z) e (ih t)
      | slot a t => exact .slot a (ih t)
  intro h
  cases h with
  | d a => exact .d (Dp.ex n.kb a)
  | new a b c => exact .new a (n.fr _ c.some b) (c.at n.kb fun u z => n.kh _ _ (fun s => h0 _ s a) z)
  | slot a => exact .slot a
  | tup a t => exact .tup (sqt_ex n.kb a) (lists t)
theorem VRs.keep (h0 : ∀ p, Ow env σ p → H0 p ≠ none) (n : Ny (Ow env σ) Hb H Hb' H') : ∀ {pvs : List PV} {vs : List V} {ps : List Addr}, VRs Z H0 Hb H σ vs pvs ps → VRs Z H0 Hb' H' σ vs pvs ps
  | [], _, _, h => by cases h; exact .nil
  | _ :: _, _, _, h => by
    cases h with
    | d a t => exact .d (Dp.ex n.kb a) (VRs.keep h0 n t)
    | new a b c e t => exact .new a (n.fr _ c.some b) (c.at n.kb fun u z => n.kh _ _ (fun s => h0 _ s a) z) e (VRs.keep h0 n t)
    | slot a t => exact .slot a (VRs.keep h0 n t)
/-- .. from an earlier start, without slots -/
theorem VRs.from {H2 : Hp} (h : ∀ p, H2 p = none → H0 p = none) : ∀ {pvs : List PV} {vs : List V} {ps : List Addr}, VRs Z H2 Hb H σ vs pvs ps → VRs Z H0 Hb H σ vs pvs ps
  | [], _, _, q => by cases q; exact .nil
  | _ :: _, _, _, q => by
    cases q with
    | d a t => exact .d a (VRs.from h t)
    | new a b c e t => exact .new (h _ a) b c e (VRs.from h t)
    | slot a t => exact .slot a (VRs.from h t)
theorem VR.from {H2 : Hp} (h : ∀ p, H2 p = none → H0 p = none) (q : VR Z H2 Hb H σ v pv) : VR Z H0 Hb H σ v pv := by
  cases q with
  | d a => exact .d a
  | new a b c => exact .new (h _ a) b c
  | slot a => exact .slot a
  | tup a t => exact .tup a (VRs.from h t)
theorem VRs.anyσ : ∀ {pvs : List PV} {vs : List V} {ps : List Addr}, VRs Z H0 Hb H [] vs pvs ps → VRs Z H0 Hb H σ vs pvs ps
  | [], _, _, q => by cases q; exact .nil
  | _ :: _, _, _, q => by
    cases q with
    | d a t => exact .d a (VRs.anyσ t)
    | new a b c e t => exact .new a b c e (VRs.anyσ t)
    | slot a t => simp at a
theorem VR.anyσ (q : VR Z H0 Hb H [] v pv) : VR Z H0 Hb H σ v pv := by
  cases q with
  | d a => exact .d a
  | new a b c => exact .new a b c
  | slot a => simp at a
  | tup a t => exact .tup a (VRs.anyσ t)
theorem Ny.back {S : Addr → Prop} (n : Ny S Hb H Hb' H') : ∀ p, H' p = none → H p = none := fun p e => by
  cases q : H p with
  | none => rfl
  | some o => exact absurd e (n.al p (by rw [q]; simp))
theorem OwnR.rdr (h : OwnR Z Hb H p o) : RdR Z Hb H (.ref p) o.rv := by
  cases h with
  | lst e r => exact .lst (.inl (.of e)) r
  | set e => exact .s (.set e)
  | dic e z r => exact .m (.dic e z r)
  | dit e r => exact .t (.dit e r)
theorem RdR.ofDp (e : Ex Hb H) {x : D} (h : Dp Z.K Hb v x) : RdR Z Hb H v (.d x) := by
  cases h with
  | lst a b => exact .lst (sql_ex e a) b
  | non => exact .non
  | bl b => exact .bl b
  | int i => exact .int i
  | str x => exact .str x
  | tup a b n => exact .tup a b n
theorem RdR.dp (e : Ex Hb H) {x : D} (h : RdR Z Hb H v (.d x)) : Dp Z.K H v x := by
  cases h with
  | lst a b => exact .lst a (DpAll.ex e b)
  | non => exact .non
  | bl b => exact .bl b
  | int i => exact .int i
  | str x => exact .str x
  | tup a b n => exact .tup (sqt_ex e a) (DpAll.ex e b) fun z => (n z).ex e
theorem VR.rd (st : Sta Z B Hb H σ env) (h : VR Z H0 Hb H σ v pv) {r : RV} (e : rd env pv = some r) : RdR Z Hb H v r := by
  cases h with
  | d a => cases e; exact .ofDp st.sub a
  | new a b c => cases e; exact c.rdr
  | slot a =>
    rename_i i
    simp only [Ol.rd] at e
    cases q : sget env i with
    | none => simp [q] at e
    | some sv =>
      rw [q] at e
      cases sv with
      | d x => simp at e
      | own b o =>
        have e' : o.rv = r := Option.some.inj e
        subst e'
        obtain ⟨p, h1, h2, h3, _⟩ := st.sl i _ q
        rw [h1] at a
        cases a
        exact h3.rdr
  | tup a t => cases e
end
theorem pe_mono {X : Cx} {e : Expr} {t t' : TE} (h : PE X e t) (hw : ∀ σ H Q, t' σ H Q → t σ H Q) : PE X e t' := ⟨fun pins s σ H Q I q => h.run pins s σ H Q I (hw σ H Q q)⟩
theorem pt_mono {X : Cx} {e : Expr} {t t' : TT} (h : PT X e t) (hw : ∀ σ H Q, t' σ H Q → t σ H Q) : PT X e t' := ⟨fun pins s σ H Q I q => h.run pins s σ H Q I (hw σ H Q q)⟩
theorem pw_mono {X : Cx} {e : Expr} {t t' : TT} (h : PW X e t) (hw : ∀ σ H Q, t' σ H Q → t σ H Q) : PW X e t' := ⟨fun w pins s σ H Q I q => h.run w pins s σ H Q I (hw σ H Q q)⟩
theorem pa_mono {X : Cx} {es : List Expr} {t t' : TA} (h : PA X es t) (hw : ∀ σ H Q, t' σ H Q → t σ H Q) : PA X es t' := ⟨fun pos pins s σ H Q I q => h.run pos pins s σ H Q I (hw σ H Q q)⟩
theorem ps_mono {X : Cx} {st : Stmt} {t t' : TS} (h : PS X st t) (hw : ∀ D σ H, t' D σ H → t D σ H) : PS X st t' := ⟨fun pins s σ H D I q => h.run pins s σ H D I (hw D σ H q)⟩
theorem pss_mono {X : Cx} {st : List Stmt} {t t' : TS} (h : PSs X st t) (hw : ∀ D σ H, t' D σ H → t D σ H) : PSs X st t' := ⟨fun pins s σ H D I q => h.run pins s σ H D I (hw D σ H q)⟩
/-! ### expressions -/
@[simp] def mVar (i : Nat) : ME := fun env => match sget env i with
  | some (.d x) => some (.d x, env)
  | some (.own _ _) => some (.slot i, env)
  | none => none
@[simp] def mC (x : D) : ME := fun env => some (.d x, env)
@[simp] def m1 (f : RV → Option PV) (a : ME) : ME := fun env => (a env).bind fun x => (rd x.2 x.1).bind fun r => (f r).bind fun p => some (p, x.2)
@[simp] def m2 (f : RV → RV → Option PV) (a b : ME) : ME := fun env => (a env).bind fun x => (b x.2).bind fun y => (rd y.2 x.1).bind fun r => (rd y.2 y.1).bind fun t => (f r t).bind fun p => some (p, y.2)
@[simp] def mNil : MA := fun env => some ([], env)
@[simp] def flt : PV → Option PV
  | .tup _ => none
  | x => some x
@[simp] def mCons (a : ME) (r : MA) : MA := fun env => (a env).bind fun x => (flt x.1).bind fun p => (r x.2).bind fun ys => some (p :: ys.1, ys.2)
@[simp] def rds (env : Env) : List PV → Option (List RV)
  | [] => some []
  | x :: r => (rd env x).bind fun d => (rds env r).bind fun ds => some (d :: ds)
/-- a builtin of values -/
@[simp] def mB (f : List RV → Option PV) (a : MA) : ME := fun env => (a env).bind fun xs => (rds xs.2 xs.1).bind fun rs => (f rs).bind fun p => some (p, xs.2)
@[simp] def mTup (a : MA) : ME := fun env => (a env).bind fun xs => (fzs xs.1).bind fun ds => if ds.length ≤ 100000 then some (.d (.tuple ds), xs.2) else none
@[simp] def mLst (a : MA) : ME := fun env => (a env).bind fun xs => (fzs xs.1).bind fun ds => if ds.length ≤ 100000 then some (.new (.lst ds), xs.2) else none
@[simp] def tru : RV → Option Bool
  | .d .none => some false
  | .d (.bool b) => some b
  | .d (.int i) => some (i != 0)
  | .d (.str x) => if x.length ≤ 100000 then some ((x.length : Int) != 0) else none
  | .d (.list ds) => some !ds.isEmpty
  | .d (.tuple ds) => some !ds.isEmpty
  | .m kvs => some !kvs.isEmpty
  | _ => none
@[simp] def mBo : PV → Option Bool
  | .d (.bool b) => some b
  | _ => none
/-- a value that is a bool, as a test -/
@[simp] def mTest (a : ME) : MT := fun env => (a env).bind fun x => (mBo x.1).bind fun b => some (b, x.2)
/-- any value, as a test -/
@[simp] def mTru (a : ME) : MT := fun env => (a env).bind fun x => (rd x.2 x.1).bind fun r => (tru r).bind fun b => some (b, x.2)
@[simp] def mAndT (a b : MT) : MT := fun env => (a env).bind fun x => if x.1 = true then b x.2 else some (false, x.2)
@[simp] def mOrT (a b : MT) : MT := fun env => (a env).bind fun x => if x.1 = true then some (true, x.2) else b x.2
@[simp] def mNotT (a : MT) : MT := fun env => (a env).bind fun x => some (!x.1, x.2)
@[simp] def mAnd (a b : ME) : ME := fun env => (a env).bind fun x => (mBo x.1).bind fun k => if k = true then b x.2 else some (.d (.bool false), x.2)
@[simp] def mOr (a b : ME) : ME := fun env => (a env).bind fun x => (mBo x.1).bind fun k => if k = true then some (.d (.bool true), x.2) else b x.2
@[simp] def mNot (a : ME) : ME := fun env => (a env).bind fun x => (mBo x.1).bind fun k => some (.d (.bool !k), x.2)
@[simp] def mIf (c : MT) (a b : ME) : ME := fun env => (c env).bind fun x => if x.1 = true then a x.2 else b x.2
@[simp] def mChain (f g : RV → RV → Option PV) (a b c : ME) : ME := fun env => (a env).bind fun x => (b x.2).bind fun y => (rd y.2 x.1).bind fun r => (rd y.2 y.1).bind fun t => (f r t).bind fun p => (mBo p).bind fun k =>
  if k = true then (c y.2).bind fun z => (rd z.2 y.1).bind fun t' => (rd z.2 z.1).bind fun u => (g t' u).bind fun p' => some (p', z.2) else some (.d (.bool false), y.2)
/-- a two-place rule computes f -/
def Op2 (Z : Zn) (r : R2) (f : RV → RV → Option PV) : Prop := ∀ Hb H x y dx dy pv, Ex Hb H → RdR Z Hb H x dx → RdR Z Hb H y dy → f dx dy = some pv → ∀ Q : VK, (∀ v Hb' H', Nx Hb H Hb' H' → VR Z H Hb' H' [] v pv → Q v H') → r x y H Q
def Op1 (Z : Zn) (r : V → Hp → VK → Prop) (f : RV → Option PV) : Prop := ∀ Hb H x dx pv, Ex Hb H → RdR Z Hb H x dx → f dx = some pv → ∀ Q : VK, (∀ v Hb' H', Nx Hb H Hb' H' → VR Z H Hb' H' [] v pv → Q v H') → r x H Q
inductive RdRs (Z : Zn) (Hb H : Hp) : List V → List RV → Prop
  | nil : RdRs Z Hb H [] []
  | cons {v vs r rs} : RdR Z Hb H v r → RdRs Z Hb H vs rs → RdRs Z Hb H (v :: vs) (r :: rs)
def OpN (Z : Zn) (r : List V → Hp → VK → Prop) (f : List RV → Option PV) : Prop := ∀ Hb H vs rs pv, Ex Hb H → RdRs Z Hb H vs rs → f rs = some pv → ∀ Q : VK, (∀ v Hb' H', Nx Hb H Hb' H' → VR Z H Hb' H' [] v pv → Q v H') → r vs H Q
section
variable {Z : Zn} {a b c : ME} {f g : RV → RV → Option PV} {σ : L2.St} {H : Hp} {Q : VK}
theorem own_some {B : Bs} {Hb : Hp} {env : Env} (st : Sta Z B Hb H σ env) : ∀ p, Ow env σ p → H p ≠ none := fun p h => (h.some st).1
theorem re_m1 {r : V → Hp → VK → Prop} {f : RV → Option PV} (hr : Op1 Z r f) (h : tI Z (m1 f a) σ H Q) : tUn r (tI Z a) σ H Q := by
  obtain ⟨B, Hb, env, pv, env', st, e, q⟩ := h
  simp only [m1, Option.bind_eq_some_iff] at e
  obtain ⟨⟨x, e1⟩, ha, r1, h1, p, h2, h3⟩ := e
  cases h3
  exact ⟨B, Hb, env, x, _, st, ha, fun v Hb' H' g1 rv => hr Hb' H' v r1 _ g1.st.sub (rv.rd g1.st h1) h2 Q fun w Hb2 H2 n rw => q w Hb2 H2 (g1.nx n) (rw.anyσ.from (g1.ny.back))⟩
theorem re_m2 {r : R2} (hr : Op2 Z r f) (h : tI Z (m2 f a b) σ H Q) : tOp r (tI Z a) (tI Z b) σ H Q := by
  obtain ⟨B, Hb, env, pv, env', st, e, q⟩ := h
  simp only [m2, Option.bind_eq_some_iff] at e
  obtain ⟨⟨x, e1⟩, ha, ⟨y, e2⟩, hb, r1, h1, r2, h2, p, h3, h4⟩ := e
  cases h4
  refine ⟨B, Hb, env, x, e1, st, ha, fun v1 Hb1 H1 g1 rv1 => ⟨B, Hb1, e1, y, _, g1.st, hb, fun v2 Hb2 H2 g2 rv2 => ?_⟩⟩
  have rv1' := rv1.keep (fun p hp => own_some st p (g1.ow p hp)) g2.ny
  exact hr Hb2 H2 v1 v2 r1 r2 _ g2.st.sub (rv1'.rd g2.st h1) (rv2.rd g2.st h2) h3 Q fun w Hb3 H3 n rw => q w Hb3 H3 ((g1.trans g2).nx n) (rw.anyσ.from (g1.trans g2).ny.back)
theorem re_var {i : Nat} (h : tI Z (mVar i) σ H Q) : tVar i σ H Q := by
  obtain ⟨B, Hb, env, pv, env', st, e, q⟩ := h
  unfold mVar at e
  cases z : sget env i with
  | none => rw [z] at e; cases e
  | some sv =>
    rw [z] at e
    cases sv with
    | d x =>
      cases e
      obtain ⟨v, h1, h2⟩ := st.sl i _ z
      exact ⟨v, h1, q v Hb H (.refl st) (.d h2)⟩
    | own b o =>
      cases e
      obtain ⟨p, h1, _⟩ := st.sl i _ z
      exact ⟨_, h1, q _ Hb H (.refl st) (.slot h1)⟩
theorem re_c {x : D} {v : V} (hv : ∀ Hb, Dp Z.K Hb v x) (h : tI Z (mC x) σ H Q) : tC v σ H Q := by
  obtain ⟨B, Hb, env, pv, env', st, e, q⟩ := h
  cases e
  exact q v Hb H (.refl st) (.d (hv Hb))
theorem re_nil {Q : List V → Hp → Prop} (h : tIA Z mNil σ H Q) : tNil σ H Q := by
  obtain ⟨B, Hb, env, pv, env', st, e, q⟩ := h
  cases e
  exact q [] [] Hb H (.refl st) .nil
theorem VRs.fresh {H0 Hb : Hp} : ∀ {pvs : List PV} {vs : List V} {ps : List Addr}, VRs Z H0 Hb H σ vs pvs ps → ∀ p ∈ ps, H0 p = none
  | [], _, _, h => by cases h; simp
  | _ :: _, _, _, h => by
    cases h with
    | d a t => exact t.fresh
    | new a b c e t => intro p hp; rcases List.mem_cons.mp hp with z | z; exact z ▸ a; exact t.fresh p z
    | slot a t => exact t.fresh
theorem re_cons {r : MA} {Q : List V → Hp → Prop} (h : tIA Z (mCons a r) σ H Q) : tCons (tI Z a) (tIA Z r) σ H Q := by
  obtain ⟨B, Hb, env, pv, env', st, e, q⟩ := h
  simp only [mCons, Option.bind_eq_some_iff] at e
  obtain ⟨⟨x, e1⟩, ha, p0, h0, ⟨ys, e2⟩, hb, h4⟩ := e
  cases h4
  refine ⟨B, Hb, env, x, e1, st, ha, fun v1 Hb1 H1 g1 rv1 => ⟨B, Hb1, e1, ys, _, g1.st, hb, fun vs ps Hb2 H2 g2 rv2 => ?_⟩⟩
  have hx : x = p0 := by cases x <;> first | (cases h0; rfl) | cases h0
  subst hx
  have rv1' := rv1.keep (fun p hp => own_some st p (g1.ow p hp)) g2.ny
  have rv2' := rv2.from (H0 := H) g1.ny.back
  cases rv1' with
  | d z => exact q _ ps Hb2 H2 (g1.trans g2) (.d z rv2')
  | new z1 z2 z3 =>
    rename_i p o
    refine q _ (p :: ps) Hb2 H2 (g1.trans g2) (.new z1 z2 z3 (fun hp => ?_) rv2')
    cases rv1 with
    | new y1 y2 y3 => exact y3.some (rv2.fresh p hp)
  | slot z => exact q _ ps Hb2 H2 (g1.trans g2) (.slot z rv2')
  | tup z t => cases h0
end
end Ol
set_option Elab.async false
set_option linter.all false
set_option maxRecDepth 100000
set_option maxHeartbeats 4000000
/-! own: displays, tests, calls -/
namespace Ol
open PySem PySem.Spec PyProof.Rows L2
section
variable {Z : Zn} {B : Bs} {Hb H Hb1 H1 Hb2 Hb' H' H0 : Hp} {σ : L2.St} {env env1 env' : Env} {p : Addr} {o : Ob} {v : V} {pv : PV}
/-- more is known of what stands -/
structure Kn (H0 Hb H Hb' : Hp) : Prop where
  kb : Ex Hb Hb'
  sub : Ex Hb' H
  fr : ∀ a, H0 a ≠ none → Hb a = none → Hb' a = none
theorem Go.know (st : Sta Z B Hb H σ env) (g : Go Z B σ env Hb H env1 Hb1 H1) (k : Kn H Hb1 H1 Hb2) : Go Z B σ env Hb H env1 Hb2 H1 := by
  refine ⟨⟨g.ny.kb.trans k.kb, k.sub, g.ny.kh, g.ny.al, fun a h1 h2 => k.fr a h1 (g.ny.fr a h1 h2)⟩, ⟨⟨g.st.ny.kb.trans k.kb, k.sub, g.st.ny.kh, g.st.ny.al, fun a h1 h2 => k.fr a (st.ny.al a h1) (g.st.ny.fr a h1 h2)⟩, fun i sv e => ?_, g.st.df, g.st.len⟩, g.ow⟩
  have q := g.st.sl i sv e
  cases sv with
  | d x => obtain ⟨v, h1, h2⟩ := q; exact ⟨v, h1, Dp.ex k.kb h2⟩
  | own b o =>
    obtain ⟨p, h1, h2, h3, h4⟩ := q
    exact ⟨p, h1, k.fr p (own_some st p (g.ow p ⟨i, b, o, e, h1⟩)) h2, h3.at k.kb fun _ z => z, h4⟩
theorem VRs.know (e : Ex Hb H) : ∀ {pvs : List PV} {vs : List V} {ps : List Addr} {ds : List D}, VRs Z H0 Hb H σ vs pvs ps → fzs pvs = some ds → ∃ Hb', Kn H0 Hb H Hb' ∧ (∀ a, a ∉ ps → Hb' a = Hb a) ∧ DpAll Z.K Hb' vs ds
  | [], _, _, _, h, f => by
    cases h
    cases f
    exact ⟨Hb, ⟨.rfl, e, fun _ _ z => z⟩, fun _ _ => rfl, .nil⟩
  | x :: r, _, _, _, h, f => by
    simp only [fzs, Option.bind_eq_some_iff] at f
    obtain ⟨d, f1, ds, f2, f3⟩ := f
    cases f3
    cases h with
    | d a t =>
      obtain ⟨Hb', k, z, q⟩ := VRs.know e t f2
      cases f1
      exact ⟨Hb', k, z, .cons (Dp.ex k.kb a) q⟩
    | new a b c n t =>
      rename_i p o vs ps
      obtain ⟨Hb', k, z, q⟩ := VRs.know e t f2
      cases c with
      | lst c1 c2 =>
        cases f1
        have hn : Hb' p = none := (z p n).trans b
        refine ⟨upd Hb' p _, ⟨k.kb.trans (Ex.new hn), upd_ex k.sub c1, fun y h1 h2 => ?_⟩, fun y hy => ?_, .cons (.lst (.inl (.of upd_same)) (DpAll.ex (k.kb.trans (Ex.new hn)) c2)) (DpAll.ex (Ex.new hn) q)⟩
        · rw [upd_ne (fun w => h1 (by rw [w]; exact a))]
          exact k.fr y h1 h2
        · rw [upd_ne (fun w => hy (by simp [w]))]
          exact z y (fun w => hy (List.mem_cons_of_mem _ w))
      | set _ => cases f1
      | dic _ _ _ => cases f1
      | dit _ _ => cases f1
    | slot a t => cases f1
theorem fzs_len : ∀ {pvs : List PV} {ds : List D}, fzs pvs = some ds → pvs.length = ds.length
  | [], _, f => by cases f; rfl
  | x :: r, _, f => by
    simp only [fzs, Option.bind_eq_some_iff] at f
    obtain ⟨d, f1, ds, f2, f3⟩ := f
    cases f3
    exact congrArg Nat.succ (fzs_len f2)
theorem VRs.len : ∀ {pvs : List PV} {vs : List V} {ps : List Addr}, VRs Z H0 Hb H σ vs pvs ps → vs.length = pvs.length
  | [], _, _, h => by cases h; rfl
  | x :: r, _, _, h => by
    cases h with
    | d a t => exact congrArg Nat.succ t.len
    | new a b c n t => exact congrArg Nat.succ t.len
    | slot a t => exact congrArg Nat.succ t.len
theorem VRs.get : ∀ {pvs : List PV} {vs : List V} {ps : List Addr} {j : Nat} {x : PV}, VRs Z H0 Hb H σ vs pvs ps → pvs[j]? = some x → ∃ v, vs[j]? = some v ∧ VR Z H0 Hb H σ v x
  | [], _, _, j, x, h, e => by simp at e
  | y :: r, _, _, 0, x, h, e => by
    simp at e
    subst e
    cases h with
    | d a t => exact ⟨_, rfl, .d a⟩
    | new a b c n t => exact ⟨_, rfl, .new a b c⟩
    | slot a t => exact ⟨_, rfl, .slot a⟩
  | y :: r, _, _, j + 1, x, h, e => by
    have e' : r[j]? = some x := by simpa using e
    cases h with
    | d a t => obtain ⟨v, h1, h2⟩ := t.get e'; exact ⟨v, by simpa using h1, h2⟩
    | new a b c n t => obtain ⟨v, h1, h2⟩ := t.get e'; exact ⟨v, by simpa using h1, h2⟩
    | slot a t => obtain ⟨v, h1, h2⟩ := t.get e'; exact ⟨v, by simpa using h1, h2⟩
theorem VRs.mem : ∀ {pvs : List PV} {vs : List V} {ps : List Addr} {j : Nat} {o : Ob} {p : Addr}, VRs Z H0 Hb H σ vs pvs ps → pvs[j]? = some (.new o) → vs[j]? = some (.ref p) → p ∈ ps
  | [], _, _, j, _, _, h, e, _ => by simp at e
  | y :: r, _, _, 0, _, _, h, e, e2 => by
    simp at e
    subst e
    cases h with
    | new a b c n t => simp at e2; subst e2; exact List.mem_cons_self
  | y :: r, _, _, j + 1, o, p, h, e, e2 => by
    have e' : r[j]? = some (.new o) := by simpa using e
    cases h with
    | d a t => exact t.mem e' (by simpa using e2)
    | new a b c n t => exact List.mem_cons_of_mem _ (t.mem e' (by simpa using e2))
    | slot a t => exact t.mem e' (by simpa using e2)
theorem VRs.df : ∀ {pvs : List PV} {vs : List V} {ps : List Addr} {j k : Nat} {o o' : Ob} {p : Addr}, VRs Z H0 Hb H σ vs pvs ps → pvs[j]? = some (.new o) → pvs[k]? = some (.new o') → vs[j]? = some (.ref p) → vs[k]? = some (.ref p) → j = k
  | [], _, _, j, _, _, _, _, h, e, _, _, _ => by simp at e
  | y :: r, _, _, 0, 0, _, _, _, _, _, _, _, _ => rfl
  | y :: r, _, _, 0, k + 1, o, o', p, h, e, e2, e3, e4 => by
    simp at e
    subst e
    cases h with
    | new a b c n t =>
      simp at e3
      subst e3
      exact absurd (t.mem (by simpa using e2) (by simpa using e4)) n
  | y :: r, _, _, j + 1, 0, o, o', p, h, e, e2, e3, e4 => by
    simp at e2
    subst e2
    cases h with
    | new a b c n t =>
      simp at e4
      subst e4
      exact absurd (t.mem (by simpa using e) (by simpa using e3)) n
  | y :: r, _, _, j + 1, k + 1, o, o', p, h, e, e2, e3, e4 => by
    cases h with
    | d a t => exact congrArg Nat.succ (t.df (by simpa using e) (by simpa using e2) (by simpa using e3) (by simpa using e4))
    | new a b c n t => exact congrArg Nat.succ (t.df (by simpa using e) (by simpa using e2) (by simpa using e3) (by simpa using e4))
    | slot a t => exact congrArg Nat.succ (t.df (by simpa using e) (by simpa using e2) (by simpa using e3) (by simpa using e4))
theorem VRs.rds (st : Sta Z B Hb H σ env) : ∀ {pvs : List PV} {vs : List V} {ps : List Addr} {rs : List RV}, VRs Z H0 Hb H σ vs pvs ps → Ol.rds env pvs = some rs → RdRs Z Hb H vs rs
  | [], _, _, _, h, e => by
    cases h
    cases e
    exact .nil
  | x :: r, _, _, _, h, e => by
    simp only [Ol.rds, Option.bind_eq_some_iff] at e
    obtain ⟨d, f1, ds, f2, f3⟩ := e
    cases f3
    cases h with
    | d a t => exact .cons (VR.rd (H0 := H0) st (.d a) f1) (t.rds st f2)
    | new a b c n t => exact .cons (VR.rd (H0 := H0) st (.new a b c) f1) (t.rds st f2)
    | slot a t => exact .cons (VR.rd (H0 := H0) st (.slot a) f1) (t.rds st f2)
end
section
variable {Z : Zn} {a b c : ME} {f g : RV → RV → Option PV} {σ : L2.St} {H : Hp} {Q : VK}
theorem re_mB {r : List V → Hp → VK → Prop} {f : List RV → Option PV} {ma : MA} (hr : OpN Z r f) (h : tI Z (mB f ma) σ H Q) : tCB r (tIA Z ma) σ H Q := by
  obtain ⟨B, Hb, env, pv, env', st, e, q⟩ := h
  simp only [mB, Option.bind_eq_some_iff] at e
  obtain ⟨⟨xs, e1⟩, ha, rs, h1, p, h2, h3⟩ := e
  cases h3
  exact ⟨B, Hb, env, xs, _, st, ha, fun vs ps Hb' H' g1 rv => hr Hb' H' vs rs _ g1.st.sub (rv.rds g1.st h1) h2 Q fun w Hb2 H2 n rw => q w Hb2 H2 (g1.nx n) (rw.anyσ.from (g1.ny.back))⟩
theorem Go.kn {B : Bs} {Hb : Hp} {env env1 : Env} {Hb1 H1 : Hp} {vs : List V} {pvs : List PV} {ps : List Addr} {ds : List D} (st : Sta Z B Hb H σ env) (g : Go Z B σ env Hb H env1 Hb1 H1) (rv : VRs Z H Hb1 H1 σ vs pvs ps) (f : fzs pvs = some ds) :
    ∃ Hb2, Go Z B σ env Hb H env1 Hb2 H1 ∧ DpAll Z.K Hb2 vs ds := by
  obtain ⟨Hb2, k, _, q⟩ := rv.know g.st.sub f
  exact ⟨Hb2, g.know st k, q⟩
theorem re_tup {ma : MA} (h : tI Z (mTup ma) σ H Q) : tTupN (tIA Z ma) σ H Q := by
  obtain ⟨B, Hb, env, pv, env', st, e, q⟩ := h
  simp only [mTup, Option.bind_eq_some_iff] at e
  obtain ⟨⟨xs, e1⟩, ha, ds, h1, h2⟩ := e
  split at h2
  · rename_i hl
    cases h2
    refine ⟨B, Hb, env, xs, _, st, ha, fun vs ps Hb' H' g1 rv => ?_⟩
    obtain ⟨Hb2, g2, hd⟩ := g1.kn st rv h1
    have hz : vs.length ≤ 100000 := by rw [DpAll.length hd]; exact hl
    refine ⟨Nat.le_trans hz (by decide), fun p ob hp hob => q _ _ _ (g2.nx (Nx.new g2.st.sub hp)) (.d (.tup sqt_new (DpAll.ex (Ex.new (g2.st.sub.free hp)) hd) fun _ => NoD.of hob))⟩
  · cases h2
theorem re_lst {ma : MA} (h : tI Z (mLst ma) σ H Q) : tLst (tIA Z ma) σ H Q := by
  obtain ⟨B, Hb, env, pv, env', st, e, q⟩ := h
  simp only [mLst, Option.bind_eq_some_iff] at e
  obtain ⟨⟨xs, e1⟩, ha, ds, h1, h2⟩ := e
  split at h2
  · rename_i hl
    cases h2
    refine ⟨B, Hb, env, xs, _, st, ha, fun vs ps Hb' H' g1 rv => ?_⟩
    obtain ⟨Hb2, g2, hd⟩ := g1.kn st rv h1
    have hz : vs.length ≤ 100000 := by rw [DpAll.length hd]; exact hl
    refine ⟨Nat.le_trans hz (by decide), fun p hp => q _ _ _ (g2.nx (Nx.newOwn g2.st.sub hp)) (.new (g2.ny.back p hp) (g2.st.sub.free hp) (.lst upd_same hd))⟩
  · cases h2
/-! tests -/
theorem mBo_is {B : Bs} {H0 Hb : Hp} {pv : PV} {k : Bool} {v : V} (e : mBo pv = some k) (r : VR Z H0 Hb H σ v pv) : v = .bl k := by
  cases r with
  | d a =>
    cases a with
    | bl b => cases e; rfl
    | _ => cases e
  | _ => cases e
theorem re_test {Q : Bool → Hp → Prop} (h : tIT Z (mTest a) σ H Q) : tTest (tI Z a) σ H Q := by
  obtain ⟨B, Hb, env, pv, env', st, e, q⟩ := h
  simp only [mTest, Option.bind_eq_some_iff] at e
  obtain ⟨⟨x, e1⟩, ha, kk, h1, h2⟩ := e
  cases h2
  exact ⟨B, Hb, env, x, _, st, ha, fun v Hb' H' g1 rv => ⟨_, mBo_is (B := B) h1 rv, q Hb' H' g1⟩⟩
theorem isE {H : Hp} {vs : List V} {ds : List D} (h : DpAll Z.K H vs ds) : vs.isEmpty = ds.isEmpty := by
  cases h <;> rfl
theorem re_tru {Q : Bool → Hp → Prop} (h : tIT Z (mTru a) σ H Q) : tI Z a σ H (fun x H' => ∃ k, TruV Z.K x H' k ∧ Q k H') := by
  obtain ⟨B, Hb, env, pv, env', st, e, q⟩ := h
  simp only [mTru, Option.bind_eq_some_iff] at e
  obtain ⟨⟨x, e1⟩, ha, r, h1, k, h3, h2⟩ := e
  cases h2
  refine ⟨B, Hb, env, x, _, st, ha, fun v Hb' H' g1 rv => ⟨_, ?_, q Hb' H' g1⟩⟩
  have w := rv.rd g1.st h1
  cases w with
  | non => cases h3; exact rfl
  | bl b => cases h3; exact rfl
  | int i => cases h3; exact rfl
  | str x =>
    simp only [tru] at h3
    split at h3
    · rename_i hl
      cases h3
      exact ⟨Nat.le_trans hl (by decide), rfl⟩
    · cases h3
  | lst s t =>
    cases h3
    refine .inl ⟨_, s, ?_⟩
    exact congrArg not (isE t).symm
  | tup s t _ =>
    cases h3
    exact .inr (.inl ⟨_, sqt_ex g1.st.sub s, congrArg not (isE t).symm⟩)
  | s _ => cases h3
  | m t =>
    cases h3
    cases t with
    | dic t1 t2 t3 =>
      refine .inr (.inr ⟨_, t1, congrArg not ?_⟩)
      have z := congrArg List.isEmpty t2
      simpa using z.symm
  | t _ => cases h3
theorem re_andT {ta tb : MT} {Q : Bool → Hp → Prop} (h : tIT Z (mAndT ta tb) σ H Q) : tAnd (tIT Z ta) (tIT Z tb) σ H Q := by
  obtain ⟨B, Hb, env, pv, env', st, e, q⟩ := h
  simp only [mAndT, Option.bind_eq_some_iff] at e
  obtain ⟨⟨x, e1⟩, ha, h2⟩ := e
  refine ⟨B, Hb, env, x, e1, st, ha, fun Hb1 H1 g1 => ?_⟩
  cases x with
  | true => exact (if_pos (rfl : true = true)).mpr ⟨B, Hb1, e1, pv, env', g1.st, h2, fun Hb2 H2 g2 => q Hb2 H2 (g1.trans g2)⟩
  | false => cases h2; exact (if_neg Bool.false_ne_true).mpr (q Hb1 H1 g1)
theorem re_orT {ta tb : MT} {Q : Bool → Hp → Prop} (h : tIT Z (mOrT ta tb) σ H Q) : tOr (tIT Z ta) (tIT Z tb) σ H Q := by
  obtain ⟨B, Hb, env, pv, env', st, e, q⟩ := h
  simp only [mOrT, Option.bind_eq_some_iff] at e
  obtain ⟨⟨x, e1⟩, ha, h2⟩ := e
  refine ⟨B, Hb, env, x, e1, st, ha, fun Hb1 H1 g1 => ?_⟩
  cases x with
  | true => cases h2; exact (if_pos (rfl : true = true)).mpr (q Hb1 H1 g1)
  | false => exact (if_neg Bool.false_ne_true).mpr ⟨B, Hb1, e1, pv, env', g1.st, h2, fun Hb2 H2 g2 => q Hb2 H2 (g1.trans g2)⟩
theorem re_notT {ta : MT} {Q : Bool → Hp → Prop} (h : tIT Z (mNotT ta) σ H Q) : tNot (tIT Z ta) σ H Q := by
  obtain ⟨B, Hb, env, pv, env', st, e, q⟩ := h
  simp only [mNotT, Option.bind_eq_some_iff] at e
  obtain ⟨⟨x, e1⟩, ha, h2⟩ := e
  cases h2
  exact ⟨B, Hb, env, x, _, st, ha, fun Hb1 H1 g1 => q Hb1 H1 g1⟩
theorem re_and (h : tI Z (mAnd a b) σ H Q) : tAndV (tI Z a) (tI Z b) σ H Q := by
  obtain ⟨B, Hb, env, pv, env', st, e, q⟩ := h
  simp only [mAnd, Option.bind_eq_some_iff] at e
  obtain ⟨⟨x, e1⟩, ha, kk, h1, h2⟩ := e
  refine ⟨B, Hb, env, x, e1, st, ha, fun v Hb1 H1 g1 rv => ⟨kk, mBo_is (B := B) h1 rv, ?_⟩⟩
  cases kk with
  | true => exact (if_pos (rfl : true = true)).mpr ⟨B, Hb1, e1, pv, env', g1.st, h2, fun w Hb2 H2 g2 rw => q w Hb2 H2 (g1.trans g2) (rw.from g1.ny.back)⟩
  | false => cases h2; exact (if_neg Bool.false_ne_true).mpr (q _ Hb1 H1 g1 (.d (.bl false)))
theorem re_or (h : tI Z (mOr a b) σ H Q) : tOrV (tI Z a) (tI Z b) σ H Q := by
  obtain ⟨B, Hb, env, pv, env', st, e, q⟩ := h
  simp only [mOr, Option.bind_eq_some_iff] at e
  obtain ⟨⟨x, e1⟩, ha, kk, h1, h2⟩ := e
  refine ⟨B, Hb, env, x, e1, st, ha, fun v Hb1 H1 g1 rv => ⟨kk, mBo_is (B := B) h1 rv, ?_⟩⟩
  cases kk with
  | true => cases h2; exact (if_pos (rfl : true = true)).mpr (q _ Hb1 H1 g1 (.d (.bl true)))
  | false => exact (if_neg Bool.false_ne_true).mpr ⟨B, Hb1, e1, pv, env', g1.st, h2, fun w Hb2 H2 g2 rw => q w Hb2 H2 (g1.trans g2) (rw.from g1.ny.back)⟩
theorem re_not (h : tI Z (mNot a) σ H Q) : tNotV (tI Z a) σ H Q := by
  obtain ⟨B, Hb, env, pv, env', st, e, q⟩ := h
  simp only [mNot, Option.bind_eq_some_iff] at e
  obtain ⟨⟨x, e1⟩, ha, kk, h1, h2⟩ := e
  cases h2
  exact ⟨B, Hb, env, x, _, st, ha, fun v Hb1 H1 g1 rv => ⟨kk, mBo_is (B := B) h1 rv, q _ Hb1 H1 g1 (.d (.bl _))⟩⟩
theorem re_if {t : MT} (h : tI Z (mIf t a b) σ H Q) : tIf (tIT Z t) (tI Z a) (tI Z b) σ H Q := by
  obtain ⟨B, Hb, env, pv, env', st, e, q⟩ := h
  simp only [mIf, Option.bind_eq_some_iff] at e
  obtain ⟨⟨x, e1⟩, ha, h2⟩ := e
  refine ⟨B, Hb, env, x, e1, st, ha, fun Hb1 H1 g1 => ?_⟩
  cases x with
  | true => exact (if_pos (rfl : true = true)).mpr ⟨B, Hb1, e1, pv, env', g1.st, h2, fun w Hb2 H2 g2 rw => q w Hb2 H2 (g1.trans g2) (rw.from g1.ny.back)⟩
  | false => exact (if_neg Bool.false_ne_true).mpr ⟨B, Hb1, e1, pv, env', g1.st, h2, fun w Hb2 H2 g2 rw => q w Hb2 H2 (g1.trans g2) (rw.from g1.ny.back)⟩
theorem re_chain {r r' : R2} (hr : Op2 Z r f) (hr' : Op2 Z r' g) (h : tI Z (mChain f g a b c) σ H Q) : tChain r r' (tI Z a) (tI Z b) (tI Z c) σ H Q := by
  obtain ⟨B, Hb, env, pv, env', st, e, q⟩ := h
  simp only [mChain, Option.bind_eq_some_iff] at e
  obtain ⟨⟨x, e1⟩, ha, ⟨y, e2⟩, hb, r1, h1, r2, h2, p, h3, k, h4, h5⟩ := e
  refine ⟨B, Hb, env, x, e1, st, ha, fun v1 Hb1 H1 g1 rv1 => ⟨B, Hb1, e1, y, e2, g1.st, hb, fun v2 Hb2 H2 g2 rv2 => ?_⟩⟩
  have rv1' := rv1.keep (fun p hp => own_some st p (g1.ow p hp)) g2.ny
  refine hr Hb2 H2 v1 v2 r1 r2 _ g2.st.sub (rv1'.rd g2.st h1) (rv2.rd g2.st h2) h3 _ fun w Hb3 H3 n rw => ⟨k, mBo_is (B := B) h4 rw, ?_⟩
  have g3 := (g1.trans g2).nx n
  cases k with
  | true =>
    simp only [if_true, Option.bind_eq_some_iff] at h5
    obtain ⟨⟨z, e3⟩, hc, t', h6, u, h7, p', h8, h9⟩ := h5
    cases h9
    refine (if_pos (rfl : true = true)).mpr ⟨B, Hb3, e2, z, _, g3.st, hc, fun v3 Hb4 H4 g4 rv3 => ?_⟩
    have rv2' := ((rv2.from (H0 := H) g1.ny.back).keep (fun p hp => own_some st p ((g1.trans g2).ow p hp)) n.to).keep (fun p hp => own_some st p ((g1.trans g2).ow p hp)) g4.ny
    exact hr' Hb4 H4 v2 v3 t' u _ g4.st.sub (rv2'.rd g4.st h6) (rv3.rd g4.st h7) h8 Q fun w' Hb5 H5 n5 rw' => q w' Hb5 H5 ((g3.trans g4).nx n5) (rw'.anyσ.from (g3.trans g4).ny.back)
  | false =>
    cases h5
    exact (if_neg Bool.false_ne_true).mpr (q _ Hb3 H3 g3 (.d (.bl false)))
end
end Ol
set_option Elab.async false
set_option linter.all false
set_option maxRecDepth 100000
set_option maxHeartbeats 4000000
/-! own: the call of a function -/
namespace Ol
open PySem PySem.Spec PyProof.Rows L2
mutual
/-- no list within -/
def nl : D → Bool
  | .list _ => false
  | .tuple ds => nls ds
  | .dict _ => false
  | _ => true
def nls : List D → Bool
  | [] => true
  | d :: ds => nl d && nls ds
end
def nlO : Ob → Bool
  | .lst xs => nls xs
  | .set _ => true
  | .dic kvs => nls (kvs.map (·.2))
  | .dit kvs => nls (kvs.map (·.2))
mutual
def nlP : PV → Bool
  | .d x => nl x
  | .new o => nlO o
  | .slot _ => true
  | .tup xs => nlPs xs
def nlPs : List PV → Bool
  | [] => true
  | x :: r => nlP x && nlPs r
end
def nlM : List (Option Ob) → Bool
  | [] => true
  | none :: r => nlM r
  | some o :: r => nlO o && nlM r
/-- new lists that are handed to a function that only reads them -/
def fzIO : List Bool → List PV → List PV
  | false :: bs, .new (.lst xs) :: r => .d (.list xs) :: fzIO bs r
  | _ :: bs, x :: r => x :: fzIO bs r
  | _, r => r
/-- a parameter's slot, and whether it is lent for reading -/
def par (e : Env) : Bool → PV → Option (SV × Bool)
  | _, .d x => some (.d x, false)
  | _, .new o => some (.own true o, false)
  | io, .slot i => match sget e i with
    | some (.own _ (.lst xs)) => if io = true then some (.own true (.lst xs), false) else some (.d (.list xs), true)
    | some (.own _ o) => some (.own true o, false)
    | _ => none
  | _, .tup _ => none
def pars (e : Env) : List Bool → List PV → Option (List (SV × Bool))
  | [], [] => some []
  | b :: bs, x :: r => (par e b x).bind fun s => (pars e bs r).bind fun ss => some (s :: ss)
  | _, _ => none
def isSlot (i : Nat) : PV → Bool
  | .slot j => i == j
  | _ => false
def okSlots : List PV → Bool
  | [] => true
  | .slot i :: r => !(r.any (isSlot i)) && okSlots r
  | _ :: r => okSlots r
def putOuts : Env → List PV → List (Option Ob) → Option Env
  | e, .slot i :: r, some o :: os => match sget e i with
    | some (.own b _) => putOuts (sset e i (some (.own b o))) r os
    | _ => none
  | e, _ :: r, _ :: os => putOuts e r os
  | e, _, _ => some e
def mCall (ios : List Bool) (F : Fn) (a : MA) : ME := fun env => (a env).bind fun xs => if okSlots (fzIO ios xs.1) = true then (pars xs.2 ios (fzIO ios xs.1)).bind fun ss => (F (ss.map (·.1))).bind fun r =>
  if (!(ss.any (·.2)) || (nlP r.1 && nlM r.2)) = true then (putOuts xs.2 (fzIO ios xs.1) r.2).bind fun e2 => some (r.1, e2) else none else none
/-! ### what is lent is let go -/
def lets (H : Hp) (T : Addr → Prop) [DecidablePred T] : Hp := fun a => if T a then none else H a
section
variable {Z : Zn} {B : Bs} {Hb H Hb1 H1 Hb2 Hb' H' H0 : Hp} {σ : L2.St} {env env1 env' : Env} {p : Addr} {o : Ob} {v : V} {pv : PV} {T : Addr → Prop} [DecidablePred T]
theorem lets_ne {a : Addr} (h : ¬ T a) : lets H T a = H a := if_neg h
theorem lets_at {a : Addr} (h : T a) : lets H T a = none := if_pos h
theorem lets_ex : Ex (lets H T) H := fun a o e => by
  by_cases h : T a
  · rw [lets_at h] at e; cases e
  · rw [lets_ne h] at e; exact e
theorem lets_none {a : Addr} (h : H a = none) : lets H T a = none := by
  by_cases z : T a
  · exact lets_at z
  · rw [lets_ne z]; exact h
theorem sqt_lets {K : Fg} {a : Addr} {xs : List V} (hT : ∀ a, T a → ∃ ys, Hb a = some (.lst ys)) (h : SqT K Hb a xs) : SqT K (lets Hb T) a xs := by
  have z : ∀ {u : HO}, Hb a = some u → (∀ ys, u ≠ .lst ys) → lets Hb T a = some u := fun {u} e n => by
    rw [lets_ne]
    · exact e
    · intro t
      obtain ⟨ys, q⟩ := hT a t
      rw [e] at q
      exact n ys (Option.some.inj q)
  rcases h with (h | ⟨o, h⟩) | h
  · exact .inl (.inl (z h fun ys q => nomatch q))
  · exact .inl (.inr ⟨o, z h fun ys q => nomatch q⟩)
  · exact .inr h
theorem nod_lets {a : Addr} (hT : ∀ a, T a → ∃ ys, Hb a = some (.lst ys)) (h : NoD Hb a) : NoD (lets Hb T) a := by
  obtain ⟨ob, xs, h1, h2⟩ := h
  refine ⟨ob, xs, ?_, h2⟩
  rw [lets_ne]
  · exact h1
  · intro t
    obtain ⟨ys, q⟩ := hT a t
    rw [h1] at q
    cases q
mutual
theorem Dp.lets {K : Fg} (hT : ∀ a, T a → ∃ ys, Hb a = some (.lst ys)) : ∀ {d : D} {v : V}, nl d = true → Dp K Hb v d → Dp K (lets Hb T) v d
  | .none, _, _, h => by cases h; exact .non
  | .bool b, _, _, h => by cases h; exact .bl b
  | .int i, _, _, h => by cases h; exact .int i
  | .str x, _, _, h => by cases h; exact .str x
  | .list ds, _, n, _ => by simp [nl] at n
  | .tuple ds, _, n, h => by cases h with | tup hs ha hn => exact .tup (sqt_lets hT hs) (DpAll.lets hT (by simpa [nl] using n) ha) fun z => nod_lets hT (hn z)
  | .dict _, _, n, _ => by simp [nl] at n
theorem DpAll.lets {K : Fg} (hT : ∀ a, T a → ∃ ys, Hb a = some (.lst ys)) : ∀ {ds : List D} {vs : List V}, nls ds = true → DpAll K Hb vs ds → DpAll K (lets Hb T) vs ds
  | [], _, _, h => by cases h; exact .nil
  | d :: ds, _, n, h => by
    simp only [nls, Bool.and_eq_true] at n
    cases h with | cons a b => exact .cons (Dp.lets hT n.1 a) (DpAll.lets hT n.2 b)
end
theorem nls_strs' : ∀ l : List Str, nls (l.map PyData.str) = true
  | [] => rfl
  | x :: l => by simp [nls, nl, nls_strs' l]
theorem DtR.lets {K : Fg} (hT : ∀ a, T a → ∃ ys, Hb a = Option.some (HO.lst ys)) {ks : KE3} {kvs : List (List Str × D)} (r : DtR K Hb ks kvs) (n : nls (kvs.map (·.2)) = true) : DtR K (lets Hb T) ks kvs := by
  induction r with
  | nil => exact .nil
  | cons a b _ ih =>
    simp only [List.map_cons, nls, Bool.and_eq_true] at n
    exact .cons (Dp.lets hT (by simpa [nl] using nls_strs' _) a) (Dp.lets hT n.1 b) (ih n.2)
theorem OwnR.lets (hT : ∀ a, T a → ∃ ys, Hb a = Option.some (HO.lst ys)) (n : nlO o = true) (h : OwnR Z Hb H p o) : OwnR Z (lets Hb T) H p o := by
  cases h with
  | lst a b => exact .lst a (DpAll.lets hT n b)
  | set a => exact .set a
  | dic a b c => exact .dic a b (DpAll.lets hT n c)
  | dit a r => exact .dit a (r.lets hT n)
theorem VRs.lets (hT : ∀ a, T a → ∃ ys, Hb a = some (.lst ys)) : ∀ {pvs : List PV} {vs : List V} {ps : List Addr}, nlPs pvs = true → VRs Z H0 Hb H σ vs pvs ps → VRs Z H0 (lets Hb T) H σ vs pvs ps
  | [], _, _, _, h => by cases h; exact .nil
  | x :: r, _, _, n, h => by
    simp only [nlPs, Bool.and_eq_true] at n
    cases h with
    | d a t => exact .d (Dp.lets hT (by simpa [nlP] using n.1) a) (t.lets hT n.2)
    | new a b c e t => exact .new a (lets_none b) (c.lets hT (by simpa [nlP] using n.1)) e (t.lets hT n.2)
    | slot a t => exact .slot a (t.lets hT n.2)
theorem VR.lets (hT : ∀ a, T a → ∃ ys, Hb a = some (.lst ys)) (n : nlP pv = true) (h : VR Z H0 Hb H σ v pv) : VR Z H0 (lets Hb T) H σ v pv := by
  cases h with
  | d a => exact .d (Dp.lets hT (by simpa [nlP] using n) a)
  | new a b c => exact .new a (lets_none b) (c.lets hT (by simpa [nlP] using n))
  | slot a => exact .slot a
  | tup a t => exact .tup (sqt_lets hT a) (t.lets hT (by simpa [nlP] using n))
/-! ### the arguments -/
theorem VRs.unk : ∀ {pvs : List PV} {vs : List V} {ps : List Addr}, VRs Z H0 Hb H σ vs pvs ps → ∀ a ∈ ps, Hb a = none
  | [], _, _, h => by cases h; simp
  | _ :: _, _, _, h => by
    cases h with
    | d a t => exact t.unk
    | new a b c e t => intro p hp; rcases List.mem_cons.mp hp with z | z; exact z ▸ b; exact t.unk p z
    | slot a t => exact t.unk
theorem VRs.grow (e : Ex Hb Hb2) : ∀ {pvs : List PV} {vs : List V} {ps : List Addr}, VRs Z H0 Hb H σ vs pvs ps → (∀ a ∈ ps, Hb2 a = none) → VRs Z H0 Hb2 H σ vs pvs ps
  | [], _, _, h, _ => by cases h; exact .nil
  | _ :: _, _, _, h, n => by
    cases h with
    | d a t => exact .d (Dp.ex e a) (t.grow e n)
    | new a b c d t => exact .new a (n _ List.mem_cons_self) (c.at e fun _ z => z) d (t.grow e fun x hx => n x (List.mem_cons_of_mem _ hx))
    | slot a t => exact .slot a (t.grow e n)
theorem VRs.fzIO (e : Ex Hb H) : ∀ {pvs : List PV} {ios : List Bool} {vs : List V} {ps : List Addr}, VRs Z H0 Hb H σ vs pvs ps → ∃ Hb' ps', Kn H0 Hb H Hb' ∧ (∀ a, a ∉ ps → Hb' a = Hb a) ∧ VRs Z H0 Hb' H σ vs (fzIO ios pvs) ps' ∧ ∀ a ∈ ps', a ∈ ps
  | [], ios, _, _, h => by
    cases h
    have z : Ol.fzIO ios [] = [] := by
      cases ios with
      | nil => rfl
      | cons b bs => cases b <;> rfl
    rw [z]
    exact ⟨Hb, [], ⟨.rfl, e, fun _ _ z => z⟩, fun _ _ => rfl, .nil, fun _ h => h⟩
  | x :: r, [], vs, ps, h => by
    have z : Ol.fzIO [] (x :: r) = x :: r := rfl
    rw [z]
    exact ⟨Hb, ps, ⟨.rfl, e, fun _ _ z => z⟩, fun _ _ => rfl, h, fun _ h => h⟩
  | x :: r, b :: ios, _, _, h => by
    cases h with
    | d a t =>
      obtain ⟨Hb', ps', k, z, q, s⟩ := t.fzIO e (ios := ios)
      have y : ∀ x, Ol.fzIO (b :: ios) (PV.d x :: r) = PV.d x :: Ol.fzIO ios r := fun x => by cases b <;> rfl
      rw [y]
      exact ⟨Hb', ps', k, z, .d (Dp.ex k.kb a) q, s⟩
    | slot a t =>
      obtain ⟨Hb', ps', k, z, q, s⟩ := t.fzIO e (ios := ios)
      have y : ∀ x, Ol.fzIO (b :: ios) (PV.slot x :: r) = PV.slot x :: Ol.fzIO ios r := fun x => by cases b <;> rfl
      rw [y]
      exact ⟨Hb', ps', k, z, .slot a q, s⟩
    | new a c d n t =>
      rename_i p o vs ps
      obtain ⟨Hb', ps', k, z, q, s⟩ := t.fzIO e (ios := ios)
      have hp : Hb' p = none := (z p n).trans c
      have keep : ∃ Hb' ps', Kn H0 Hb H Hb' ∧ (∀ a, a ∉ p :: ps → Hb' a = Hb a) ∧ VRs Z H0 Hb' H σ (V.ref p :: vs) (PV.new o :: Ol.fzIO ios r) ps' ∧ ∀ a ∈ ps', a ∈ p :: ps :=
        ⟨Hb', p :: ps', k, fun a ha => z a fun w => ha (List.mem_cons_of_mem _ w), .new a hp (d.at k.kb fun _ z => z) (fun w => n (s p w)) q, fun x hx => by
          rcases List.mem_cons.mp hx with w | w
          · rw [w]; exact List.mem_cons_self
          · exact List.mem_cons_of_mem _ (s x w)⟩
      cases b with
      | true => exact keep
      | false =>
        cases d with
        | lst d1 d2 =>
          refine ⟨upd Hb' p _, ps', ⟨k.kb.trans (Ex.new hp), upd_ex k.sub d1, fun y h1 h2 => ?_⟩, fun y hy => ?_, .d (.lst (.inl (.of upd_same)) (DpAll.ex (k.kb.trans (Ex.new hp)) d2)) (q.grow (Ex.new hp) fun y hy => ?_), fun x hx => List.mem_cons_of_mem _ (s x hx)⟩
          · rw [upd_ne (fun w => h1 (by rw [w]; exact a))]
            exact k.fr y h1 h2
          · rw [upd_ne (fun w => hy (by simp [w]))]
            exact z y (fun w => hy (List.mem_cons_of_mem _ w))
          · rw [upd_ne (fun w => n (by rw [← w]; exact s y hy))]
            exact q.unk y hy
        | set _ => exact keep
        | dic _ _ _ => exact keep
        | dit _ _ => exact keep
theorem pars_get : ∀ {ios : List Bool} {pvs : List PV} {ss : List (SV × Bool)} {j : Nat} {s : SV × Bool}, pars env ios pvs = some ss → ss[j]? = some s → ∃ b x, pvs[j]? = some x ∧ par env b x = some s
  | [], [], _, _, _, e, h => by cases e; simp at h
  | b :: bs, x :: r, _, 0, _, e, h => by
    simp only [pars, Option.bind_eq_some_iff] at e
    obtain ⟨d, f1, ds, f2, f3⟩ := e
    cases f3
    simp at h
    subst h
    exact ⟨b, x, rfl, f1⟩
  | b :: bs, x :: r, _, j + 1, _, e, h => by
    simp only [pars, Option.bind_eq_some_iff] at e
    obtain ⟨d, f1, ds, f2, f3⟩ := e
    cases f3
    obtain ⟨b', x', h1, h2⟩ := pars_get f2 (by simpa using h)
    exact ⟨b', x', by simpa using h1, h2⟩
  | [], _ :: _, _, _, _, e, _ => by cases e
  | _ :: _, [], _, _, _, e, _ => by cases e
theorem pars_len : ∀ {ios : List Bool} {pvs : List PV} {ss : List (SV × Bool)}, pars env ios pvs = some ss → ss.length = pvs.length
  | [], [], _, e => by cases e; rfl
  | b :: bs, x :: r, _, e => by
    simp only [pars, Option.bind_eq_some_iff] at e
    obtain ⟨d, f1, ds, f2, f3⟩ := e
    cases f3
    exact congrArg Nat.succ (pars_len f2)
  | [], _ :: _, _, e => by cases e
  | _ :: _, [], _, e => by cases e
theorem isSlot_any {i j : Nat} : ∀ {r : List PV}, r[j]? = some (.slot i) → r.any (isSlot i) = true := fun {r} h => by
  rw [List.any_eq_true]
  exact ⟨_, List.mem_of_getElem? h, by simp [isSlot]⟩
theorem okSlots_tail {x : PV} {r : List PV} (h : okSlots (x :: r) = true) : okSlots r = true := by
  cases x <;> simp only [okSlots, Bool.and_eq_true] at h <;> first | exact h | exact h.2
theorem okSlots_eq : ∀ {pvs : List PV} {j k i : Nat}, okSlots pvs = true → pvs[j]? = some (.slot i) → pvs[k]? = some (.slot i) → j = k
  | [], j, _, _, _, h, _ => by simp at h
  | x :: r, 0, 0, _, _, _, _ => rfl
  | x :: r, 0, k + 1, i, h, h1, h2 => by
    simp at h1
    subst h1
    simp only [okSlots, Bool.and_eq_true, Bool.not_eq_true'] at h
    rw [isSlot_any (by simpa using h2)] at h
    exact absurd h.1 (by simp)
  | x :: r, j + 1, 0, i, h, h1, h2 => by
    simp at h2
    subst h2
    simp only [okSlots, Bool.and_eq_true, Bool.not_eq_true'] at h
    rw [isSlot_any (by simpa using h1)] at h
    exact absurd h.1 (by simp)
  | x :: r, j + 1, k + 1, i, h, h1, h2 => congrArg Nat.succ (okSlots_eq (okSlots_tail h) (by simpa using h1) (by simpa using h2))
theorem nlM_get : ∀ {l : List (Option Ob)} {j : Nat} {o : Ob}, nlM l = true → l[j]? = some (some o) → nlO o = true
  | [], j, _, _, h => by simp at h
  | none :: r, 0, _, n, h => by simp at h
  | some o :: r, 0, _, n, h => by simp at h; subst h; simp only [nlM, Bool.and_eq_true] at n; exact n.1
  | none :: r, j + 1, _, n, h => nlM_get (l := r) (by simpa [nlM] using n) (by simpa using h)
  | some o :: r, j + 1, _, n, h => by simp only [nlM, Bool.and_eq_true] at n; exact nlM_get (l := r) n.2 (by simpa using h)
theorem putOuts_len : ∀ {pvs : List PV} {outs : List (Option Ob)} {e e2 : Env}, putOuts e pvs outs = some e2 → e2.length = e.length
  | [], outs, e, e2, h => by cases outs <;> (cases h; rfl)
  | x :: r, [], e, e2, h => by cases x <;> (cases h; rfl)
  | x :: r, w :: os, e, e2, h => by
    have skip : putOuts e r os = some e2 → e2.length = e.length := fun h => putOuts_len (pvs := r) h
    cases x with
    | d y => exact skip (by cases w <;> exact h)
    | new y => exact skip (by cases w <;> exact h)
    | tup y => exact skip (by cases w <;> exact h)
    | slot k =>
      cases w with
      | none => exact skip h
      | some o' =>
        simp only [putOuts] at h
        cases q : sget e k with
        | none => simp [q] at h
        | some s =>
          rw [q] at h
          cases s with
          | d y => simp at h
          | own b o =>
            have z := putOuts_len (pvs := r) (show putOuts (sset e k (some (.own b o'))) r os = some e2 from h)
            rw [z, sset_length]
/-- what a call has left in the slots -/
theorem putOuts_get : ∀ {pvs : List PV} {outs : List (Option Ob)} {e e2 : Env} {i : Nat} {sv : SV}, putOuts e pvs outs = some e2 → okSlots pvs = true → sget e2 i = some sv →
    (∃ (j : Nat) (b : Bool) (o o' : Ob), pvs[j]? = some (PV.slot i) ∧ outs[j]? = some (some o') ∧ sget e i = some (SV.own b o) ∧ sv = SV.own b o') ∨ (sget e i = some sv ∧ ∀ (j : Nat) (o' : Ob), pvs[j]? = some (PV.slot i) → outs[j]? = some (some o') → False)
  | [], outs, e, e2, i, sv, h, _, hg => by
    have z : e = e2 := by cases outs <;> (cases h; rfl)
    subst z
    exact .inr ⟨hg, fun j o' q => by simp at q⟩
  | x :: r, [], e, e2, i, sv, h, _, hg => by
    have z : e = e2 := by cases x <;> (cases h; rfl)
    subst z
    exact .inr ⟨hg, fun j o' _ q => by simp at q⟩
  | x :: r, w :: os, e, e2, i, sv, h, ok, hg => by
    have lift : ∀ {e : Env}, (∀ o' : Ob, x = PV.slot i → w = some o' → False) → ((∃ (j : Nat) (b : Bool) (o o' : Ob), r[j]? = some (PV.slot i) ∧ os[j]? = some (some o') ∧ sget e i = some (SV.own b o) ∧ sv = SV.own b o') ∨ (sget e i = some sv ∧ ∀ (j : Nat) (o' : Ob), r[j]? = some (PV.slot i) → os[j]? = some (some o') → False)) →
      (∃ (j : Nat) (b : Bool) (o o' : Ob), (x :: r)[j]? = some (PV.slot i) ∧ (w :: os)[j]? = some (some o') ∧ sget e i = some (SV.own b o) ∧ sv = SV.own b o') ∨ (sget e i = some sv ∧ ∀ (j : Nat) (o' : Ob), (x :: r)[j]? = some (PV.slot i) → (w :: os)[j]? = some (some o') → False) := by
      intro e n q
      rcases q with ⟨j, b, o, o', h1, h2, h3, h4⟩ | ⟨h1, h2⟩
      · exact .inl ⟨j + 1, b, o, o', by simpa using h1, by simpa using h2, h3, h4⟩
      · refine .inr ⟨h1, fun j o' q1 q2 => ?_⟩
        cases j with
        | zero => exact n o' (by simpa using q1) (by simpa using q2)
        | succ j => exact h2 j o' (by simpa using q1) (by simpa using q2)
    have skip : putOuts e r os = some e2 → (∀ o' : Ob, x = PV.slot i → w = some o' → False) → _ := fun h n => lift n (putOuts_get (pvs := r) h (okSlots_tail ok) hg)
    cases x with
    | d y => exact skip (by cases w <;> exact h) (fun o' q => nomatch q)
    | new y => exact skip (by cases w <;> exact h) (fun o' q => nomatch q)
    | tup y => exact skip (by cases w <;> exact h) (fun o' q => nomatch q)
    | slot k =>
      cases w with
      | none => exact skip h (fun o' _ q => nomatch q)
      | some o' =>
        simp only [putOuts] at h
        cases q : sget e k with
        | none => simp [q] at h
        | some s =>
          rw [q] at h
          cases s with
          | d y => simp at h
          | own b o =>
            have h' : putOuts (sset e k (some (SV.own b o'))) r os = some e2 := h
            by_cases hk : k = i
            · subst hk
              have one : ∀ (j : Nat) (o' : Ob), r[j]? = some (PV.slot k) → os[j]? = some (some o') → False := fun j o' q1 _ => by
                have z := okSlots_eq ok (j := 0) (k := j + 1) (i := k) rfl (by simpa using q1)
                omega
              rcases putOuts_get (pvs := r) h' (okSlots_tail ok) hg with ⟨j, b', o1, o2, h1, h2, _, _⟩ | ⟨h1, _⟩
              · exact (one j o2 h1 h2).elim
              · exact .inl ⟨0, b, o, o', rfl, rfl, q, (Option.some.inj (sget_set_some h1)).symm⟩
            · have z : sget (sset e k (some (SV.own b o'))) i = sget e i := sget_set_ne hk
              have w := putOuts_get (pvs := r) h' (okSlots_tail ok) hg
              rw [z] at w
              exact lift (fun o' q _ => hk (PV.slot.inj q)) w
end
end Ol
set_option Elab.async false
set_option linter.all false
set_option maxRecDepth 100000
set_option maxHeartbeats 4000000
/-! own: a function's promise, and its call -/
namespace Ol
open PySem PySem.Spec PyProof.Rows L2
structure OutR (Z : Zn) (Hb' H' : Hp) (vs : List V) (svs : List SV) (outs : List (Option Ob)) : Prop where
  own : ∀ (j : Nat) (b : Bool) (o : Ob), svs[j]? = some (.own b o) → ∃ (p : Addr) (o' : Ob), vs[j]? = some (.ref p) ∧ outs[j]? = some (some o') ∧ Hb' p = none ∧ OwnR Z Hb' H' p o'
  dat : ∀ (j : Nat) (x : D) (o' : Ob), svs[j]? = some (.d x) → outs[j]? = some (some o') → False
def Pw (svs : List SV) (vs : List V) (j : Nat) (p : Addr) : Prop := ∃ b o, sget (svs.map some) j = some (.own b o) ∧ (vs.map some)[j]? = some (some (.ref p))
def spI (Z : Zn) (F : Fn) : Sp := fun vs H Q _ => ∃ Hb svs r outs, vs.length = svs.length ∧ Sta Z ⟨Hb, H, Pw svs vs⟩ Hb H (vs.map some) (svs.map some) ∧ F svs = some (r, outs) ∧
  ∀ v Hb' H', Ny (Ow (svs.map some) (vs.map some)) Hb H Hb' H' → OutR Z Hb' H' vs svs outs → VR Z H Hb' H' [] v r → Q v H'
theorem sget_map : ∀ {l : List SV} {i : Nat}, sget (l.map some) i = l[i]?
  | [], i => by simp [sget]
  | x :: r, 0 => rfl
  | x :: r, i + 1 => by
    have z := sget_map (l := r) (i := i)
    simpa [sget] using z
section
variable {Z : Zn} {σ : L2.St} {H : Hp} {Q : VK}
open Classical in
theorem call_at {B : Bs} {Hb Hb1 H1 : Hp} {env e1 e2 : Env} {xs : List PV} {vs : List V} {ps : List Addr} {ios : List Bool} {ss : List (SV × Bool)} {F : Fn} {r : PV} {outs : List (Option Ob)} {E : XK}
    (st : Sta Z B Hb H σ env) (g1 : Go Z B σ env Hb H e1 Hb1 H1) (rv1 : VRs Z H Hb1 H1 σ vs xs ps) (ok : okSlots (fzIO ios xs) = true) (hs : pars e1 ios (fzIO ios xs) = some ss) (hF : F (ss.map (·.1)) = some (r, outs))
    (hn : ss.any (·.2) = true → nlP r = true ∧ nlM outs = true) (hp : putOuts e1 (fzIO ios xs) outs = some e2) (q : ∀ v Hb' H', Go Z B σ env Hb H e2 Hb' H' → VR Z H Hb' H' σ v r → Q v H') : spI Z F vs H1 Q E := by
  obtain ⟨Hb2, ps2, k2, z2, rv2, s2⟩ := rv1.fzIO g1.st.sub (ios := ios)
  have g2 : Go Z B σ env Hb H e1 Hb2 H1 := g1.know st k2
  generalize hx : fzIO ios xs = pvs at ok hs hp rv2
  have owE : ∀ p, Ow e1 σ p → H p ≠ none ∧ Hb2 p = none := fun p h => ⟨own_some st p (g2.ow p h), (h.some g2.st).2⟩
  -- the parameters, one by one
  have par1 : ∀ (j : Nat) (s : SV × Bool), ss[j]? = some s → ∃ v x, vs[j]? = some v ∧ pvs[j]? = some x ∧ ((∃ y, s = (.d y, false) ∧ Dp Z.K Hb2 v y) ∨ (∃ i b l, x = .slot i ∧ s = (.d (.list l), true) ∧ sget e1 i = some (.own b (.lst l)) ∧ σ[i]? = some (some v)) ∨
      (∃ p o, x = .new o ∧ s = (.own true o, false) ∧ v = .ref p ∧ H p = none ∧ Hb2 p = none ∧ OwnR Z Hb2 H1 p o) ∨ ∃ i b o, x = .slot i ∧ s = (.own true o, false) ∧ sget e1 i = some (.own b o) ∧ σ[i]? = some (some v)) := by
    intro j s hj
    obtain ⟨b, x, h1, h2⟩ := pars_get hs hj
    obtain ⟨v, h3, h4⟩ := rv2.get h1
    refine ⟨v, x, h3, h1, ?_⟩
    cases h4 with
    | d a => cases b <;> (cases h2; exact .inl ⟨_, rfl, a⟩)
    | new a c d => cases b <;> (cases h2; exact .inr (.inr (.inl ⟨_, _, rfl, rfl, rfl, a, c, d⟩)))
    | tup a t => cases b <;> cases h2
    | slot a =>
      rename_i i
      simp only [par] at h2
      cases w : sget e1 i with
      | none => rw [w] at h2; cases h2
      | some sv =>
        rw [w] at h2
        cases sv with
        | d y => cases h2
        | own bb o =>
          cases o with
          | lst l =>
            cases b with
            | true => cases h2; exact .inr (.inr (.inr ⟨i, bb, _, rfl, rfl, w, a⟩))
            | false => cases h2; exact .inr (.inl ⟨i, bb, l, rfl, rfl, w, a⟩)
          | set l => cases h2; exact .inr (.inr (.inr ⟨i, bb, _, rfl, rfl, w, a⟩))
          | dic l => cases h2; exact .inr (.inr (.inr ⟨i, bb, _, rfl, rfl, w, a⟩))
          | dit l => cases h2; exact .inr (.inr (.inr ⟨i, bb, _, rfl, rfl, w, a⟩))
  -- what is lent
  let T : Addr → Prop := fun a => ∃ (j i : Nat) (b : Bool) (l : List D), pvs[j]? = some (.slot i) ∧ ss[j]? = some (.d (.list l), true) ∧ sget e1 i = some (.own b (.lst l)) ∧ σ[i]? = some (some (.ref a))
  have tOw : ∀ a, T a → Ow e1 σ a := fun a ⟨j, i, b, l, h1, h2, h3, h4⟩ => ⟨i, b, _, h3, h4⟩
  have tAt : ∀ a, T a → ∃ ys, H1 a = some (.lst ys) := fun a ⟨j, i, b, l, h1, h2, h3, h4⟩ => by
    obtain ⟨p, q1, q2, q3, _⟩ := g2.st.sl i _ h3
    rw [h4] at q1
    cases q1
    cases q3 with
    | lst w1 w2 => exact ⟨_, w1⟩
  let HbS : Hp := fun a => if T a then H1 a else Hb2 a
  have hS1 : ∀ a, T a → HbS a = H1 a := fun a h => if_pos h
  have hS2 : ∀ a, ¬ T a → HbS a = Hb2 a := fun a h => if_neg h
  have ex1 : Ex Hb2 HbS := fun a o e => by
    rw [hS2]
    · exact e
    · intro t
      rw [(owE a (tOw a t)).2] at e
      cases e
  have ex2 : Ex HbS H1 := fun a o e => by
    by_cases t : T a
    · rw [hS1 a t] at e; exact e
    · rw [hS2 a t] at e; exact g2.st.sub a o e
  have len : vs.length = (ss.map (·.1)).length := by rw [List.length_map, pars_len hs, ← rv2.len]
  have sv_at : ∀ (j : Nat) (sv : SV), (ss.map (·.1))[j]? = some sv → ∃ t, ss[j]? = some (sv, t) := fun j sv h => by
    rw [List.getElem?_map] at h
    cases w : ss[j]? with
    | none => rw [w] at h; cases h
    | some s =>
      rw [w] at h
      have z : s.1 = sv := Option.some.inj h
      exact ⟨s.2, by rw [← z]⟩
  have vs_at : ∀ (j : Nat) (v : V), vs[j]? = some v ↔ (vs.map some)[j]? = some (some v) := fun j v => by
    rw [List.getElem?_map]
    cases vs[j]? <;> simp
  -- an own parameter's cell
  have cell : ∀ (j : Nat) (b : Bool) (o : Ob) (p : Addr), (ss.map (·.1))[j]? = some (.own b o) → vs[j]? = some (.ref p) → (pvs[j]? = some (.new o) ∧ H p = none ∧ Hb2 p = none ∧ OwnR Z Hb2 H1 p o) ∨ ∃ i b', pvs[j]? = some (.slot i) ∧ sget e1 i = some (.own b' o) ∧ σ[i]? = some (some (.ref p)) := by
    intro j b o p h1 h2
    obtain ⟨t, h3⟩ := sv_at j _ h1
    obtain ⟨v, x, h4, h5, h6⟩ := par1 j _ h3
    rw [h2] at h4
    cases h4
    rcases h6 with ⟨y, z, _⟩ | ⟨i, b, l, _, z, _⟩ | ⟨p', o', e1', z, e2', a1, a2, a3⟩ | ⟨i, b', o', e1', z, a1, a2⟩
    · cases z
    · cases z
    · cases z; cases e2'; subst e1'; exact .inl ⟨h5, a1, a2, a3⟩
    · cases z; subst e1'; exact .inr ⟨i, b', h5, a1, a2⟩
  have sta : Sta Z ⟨HbS, H1, Pw (ss.map (·.1)) vs⟩ HbS H1 (vs.map some) ((ss.map (·.1)).map some) := by
    refine ⟨.refl ex2, fun j sv e => ?_, fun j k p b o b' o' h1 h2 h3 h4 => ?_, by simpa using len⟩
    · rw [sget_map] at e
      obtain ⟨t, h3⟩ := sv_at j _ e
      obtain ⟨v, x, h4, h5, h6⟩ := par1 j _ h3
      rcases h6 with ⟨y, z, a⟩ | ⟨i, b, l, z1, z, a1, a2⟩ | ⟨p', o', e1', z, e2', a1, a2, a3⟩ | ⟨i, b', o', e1', z, a1, a2⟩
      · cases z; exact ⟨v, (vs_at j v).mp h4, Dp.ex ex1 a⟩
      · cases z
        obtain ⟨p, q1, q2, q3, _⟩ := g2.st.sl i _ a1
        rw [a2] at q1
        cases q1
        cases q3 with
        | lst w1 w2 =>
          subst z1
          exact ⟨_, (vs_at j _).mp h4, .lst (.inl (.of ((hS1 p ⟨j, i, b, l, h5, h3, a1, a2⟩).trans w1))) (DpAll.ex ex1 w2)⟩
      · cases z
        subst e2' e1'
        have nt : ¬ T p' := fun t => (owE p' (tOw p' t)).1 a1
        exact ⟨p', (vs_at j _).mp h4, (hS2 p' nt).trans a2, a3.at ex1 fun _ z => z, fun _ => ⟨_, _, by rw [sget_map]; exact e, (vs_at j _).mp h4⟩, fun z => by cases z⟩
      · cases z
        subst e1'
        obtain ⟨p, q1, q2, q3, _⟩ := g2.st.sl i _ a1
        rw [a2] at q1
        cases q1
        have nt : ¬ T p := fun ⟨j', i', b'', l, t1, t2, t3, t4⟩ => by
          have z := g2.st.df i i' p _ _ _ _ a1 t3 a2 t4
          subst z
          have z := okSlots_eq ok h5 t1
          subst z
          rw [h3] at t2
          cases t2
        exact ⟨p, (vs_at j _).mp h4, (hS2 p nt).trans q2, q3.at ex1 fun _ z => z, fun _ => ⟨_, _, by rw [sget_map]; exact e, (vs_at j _).mp h4⟩, fun z => by cases z⟩
    · rw [sget_map] at h1 h2
      have c1 := cell j b o p h1 ((vs_at j _).mpr h3)
      have c2 := cell k b' o' p h2 ((vs_at k _).mpr h4)
      rcases c1 with ⟨n1, n2, _⟩ | ⟨i, bb, n1, n2, n3⟩
      · rcases c2 with ⟨m1, _⟩ | ⟨i', bb', m1, m2, m3⟩
        · exact rv2.df n1 m1 ((vs_at j _).mpr h3) ((vs_at k _).mpr h4)
        · exact absurd n2 (owE p ⟨i', bb', _, m2, m3⟩).1
      · rcases c2 with ⟨m1, m2, _⟩ | ⟨i', bb', m1, m2, m3⟩
        · exact absurd m2 (owE p ⟨i, bb, _, n2, n3⟩).1
        · have z := g2.st.df i i' p _ _ _ _ n2 m2 n3 m3
          subst z
          exact okSlots_eq ok n1 m1
  refine ⟨HbS, ss.map (·.1), r, outs, len, sta, hF, fun v Hb' H' n out rv => ?_⟩
  -- back
  have hT : ∀ a, T a → ∃ ys, Hb' a = some (.lst ys) := fun a t => by
    obtain ⟨ys, e⟩ := tAt a t
    exact ⟨ys, n.kb a _ ((hS1 a t).trans e)⟩
  have nolend : ss.any (·.2) = false → ∀ a, ¬ T a := fun h a ⟨j, i, b, l, h1, h2, _⟩ => by
    have z : ss.any (·.2) = true := List.any_eq_true.mpr ⟨_, List.mem_of_getElem? h2, rfl⟩
    rw [h] at z
    cases z
  have noown : ∀ a, Ow ((ss.map (·.1)).map some) (vs.map some) a → H a = none ∨ ∃ (j i : Nat) (b b' : Bool) (o : Ob), pvs[j]? = some (.slot i) ∧ (ss.map (·.1))[j]? = some (.own b' o) ∧ sget e1 i = some (.own b o) ∧ σ[i]? = some (some (.ref a)) := fun a ⟨j, b, o, h1, h2⟩ => by
    rw [sget_map] at h1
    rcases cell j b o a h1 ((vs_at j _).mpr h2) with ⟨_, n2, _⟩ | ⟨i, bb, n1, n2, n3⟩
    · exact .inl n2
    · exact .inr ⟨j, i, bb, b, o, n1, h1, n2, n3⟩
  have kb2 : Ex Hb2 (lets Hb' T) := fun a o e => by
    have nt : ¬ T a := fun t => by rw [(owE a (tOw a t)).2] at e; cases e
    rw [lets_ne nt]
    exact n.kb a o (ex1 a o e)
  have frN : ∀ a, H1 a ≠ none → Hb2 a = none → lets Hb' T a = none := fun a h1 h2 => by
    by_cases t : T a
    · exact lets_at t
    · rw [lets_ne t]
      exact n.fr a h1 ((hS2 a t).trans h2)
  have ny : Ny (Ow env σ) Hb H (lets Hb' T) H' := by
    refine ⟨g2.ny.kb.trans kb2, (lets_ex).trans n.sub, fun a o s e => ?_, fun a e => n.al a (g2.ny.al a e), fun a h1 h2 => frN a (g2.ny.al a h1) (g2.ny.fr a h1 h2)⟩
    refine n.kh a o (fun w => ?_) (g2.ny.kh a o s e)
    rcases noown a w with z | ⟨j, i, b, b', o', _, _, w2, w3⟩
    · rw [z] at e; cases e
    · exact s (g2.ow a ⟨i, b, o', w2, w3⟩)
  have own2 : ∀ (i : Nat) (b : Bool) (o : Ob), sget e2 i = some (.own b o) → ∃ o', sget e1 i = some (.own b o') := fun i b o h => by
    rcases putOuts_get hp ok h with ⟨j, b', o1, o2, _, _, h3, h4⟩ | ⟨h1, _⟩
    · cases h4; exact ⟨_, h3⟩
    · exact ⟨_, h1⟩
  have dropO : ∀ (j : Nat) (o : Ob) (p : Addr), outs[j]? = some (some o) → OwnR Z Hb' H' p o → OwnR Z (lets Hb' T) H' p o := fun j o p h w => by
    cases l : ss.any (·.2) with
    | false =>
      have z : lets Hb' T = Hb' := funext fun a => lets_ne (nolend l a)
      rw [z]
      exact w
    | true => exact w.lets hT (nlM_get (hn l).2 h)
  have go : Go Z B σ env Hb H e2 (lets Hb' T) H' := by
    refine ⟨ny, ⟨st.ny.base ny st.own0, fun i sv e => ?_, fun i j p b o b' o' h1 h2 h3 h4 => ?_, g2.st.len.trans (putOuts_len hp).symm⟩, fun p ⟨i, b, o, h1, h2⟩ => ?_⟩
    · rcases putOuts_get hp ok e with ⟨j, b, o, o', h1, h2, h3, rfl⟩ | ⟨h1, h2⟩
      · obtain ⟨v', w1, w2⟩ := rv2.get h1
        cases w2 with
        | slot w2 =>
          obtain ⟨p, q1, q2, q3, q4⟩ := g2.st.sl i _ h3
          rw [w2] at q1
          cases q1
          -- the parameter was its own
          have hj : ∃ s, ss[j]? = some s := by
            have hl := pars_len hs
            have : j < ss.length := by rw [hl]; exact (List.getElem?_eq_some_iff.mp h1).1
            exact ⟨_, List.getElem?_eq_getElem this⟩
          obtain ⟨s, hj⟩ := hj
          have hsv : (ss.map (·.1))[j]? = some s.1 := by rw [List.getElem?_map, hj]; rfl
          cases c : s.1 with
          | d y => rw [c] at hsv; exact (out.dat j y o' hsv h2).elim
          | own bb oo =>
            rw [c] at hsv
            obtain ⟨p', o2, m1, m2, m3, m4⟩ := out.own j _ _ hsv
            rw [w1] at m1
            cases m1
            rw [h2] at m2
            cases m2
            exact ⟨p, w2, lets_none m3, dropO j _ p h2 m4, q4⟩
      · have w := g2.st.sl i sv h1
        cases sv with
        | d y => obtain ⟨v', w1, w2⟩ := w; exact ⟨v', w1, Dp.ex kb2 w2⟩
        | own b o =>
          obtain ⟨p, w1, w2, w3, w4⟩ := w
          refine ⟨p, w1, frN p w3.some w2, w3.at kb2 fun u z => n.kh p u (fun s => ?_) z, w4⟩
          rcases noown p s with z | ⟨j, i', b1, b2, o', y1, y2, y3, y4⟩
          · exact own_some st p (g2.ow p ⟨i, b, o, h1, w1⟩) z
          · have z := g2.st.df i i' p _ _ _ _ h1 y3 w1 y4
            subst z
            obtain ⟨_, o2, _, m2, _⟩ := out.own j _ _ y2
            exact h2 j o2 y1 m2
    · obtain ⟨o1, h1⟩ := own2 i b o h1
      obtain ⟨o2, h2⟩ := own2 j b' o' h2
      exact g2.st.df i j p _ _ _ _ h1 h2 h3 h4
    · obtain ⟨o1, h1⟩ := own2 i b o h1
      exact g2.ow p ⟨i, b, o1, h1, h2⟩
  have rv' : VR Z H1 (lets Hb' T) H' [] v r := by
    cases l : ss.any (·.2) with
    | false =>
      have z : lets Hb' T = Hb' := funext fun a => lets_ne (nolend l a)
      rw [z]
      exact rv
    | true => exact rv.lets hT (hn l).1
  exact q v _ H' go (rv'.anyσ.from g1.ny.back)
theorem re_call {F : Fn} {ios : List Bool} {ma : MA} {E : XK} (h : tI Z (mCall ios F ma) σ H Q) : tCall (spI Z F) [] E (tIA Z ma) σ H Q := by
  obtain ⟨B, Hb, env, pv, env', st, e, q⟩ := h
  simp only [mCall, Option.bind_eq_some_iff] at e
  obtain ⟨⟨xs, e1⟩, ha, e⟩ := e
  split at e
  · rename_i ok
    simp only [Option.bind_eq_some_iff] at e
    obtain ⟨ss, hs, ⟨r, outs⟩, hF, e⟩ := e
    split at e
    · rename_i cond
      simp only [Option.bind_eq_some_iff] at e
      obtain ⟨e2, hp, e⟩ := e
      cases e
      refine ⟨B, Hb, env, xs, e1, st, ha, fun vs ps Hb1 H1 g1 rv1 => ?_⟩
      show spI Z F (vs ++ []) H1 Q E
      rw [List.append_nil]
      refine call_at st g1 rv1 ok hs hF (fun l => ?_) hp q
      rw [l] at cond
      simpa using cond
    · cases e
  · cases e
end
end Ol
set_option Elab.async false
set_option linter.all false
set_option maxRecDepth 100000
set_option maxHeartbeats 4000000
/-! own: stores and statements -/
namespace Ol
open PySem PySem.Spec PyProof.Rows L2
@[simp] def svOf : PV → Option SV
  | .d x => some (.d x)
  | .new o => some (.own false o)
  | _ => none
@[simp] def store (i : Nat) (pv : PV) (env : Env) : Option Env := match sget env i with
  | some (.own true _) => none
  | _ => (svOf pv).bind fun sv => some (sset env i (some sv))
@[simp] def stores : List Nat → List PV → Env → Option Env
  | [], [], e => some e
  | i :: is, x :: xs, e => (store i x e).bind (stores is xs)
  | _, _, _ => none
@[simp] def comps : PV → Option (List PV)
  | .d (.tuple ds) => some (ds.map .d)
  | .tup xs => some xs
  | _ => none
@[simp] def mNames (is : List Nat) (pv : PV) (env : Env) : Option Env := (comps pv).bind fun xs => stores is xs env
abbrev MG := PV → Env → Option Env
@[simp] def mAsg (g : MG) (a : ME) : MS := fun env => (a env).bind fun x => (g x.1 x.2).bind fun e => some (.nx e)
@[simp] def mSkip : MS := fun env => some (.nx env)
def mBreak : MS := fun env => some (.bk env)
def mCont : MS := fun env => some (.ct env)
def mBad : MS := fun _ => none
@[simp] def mSeq (s t : MS) : MS := fun env => (s env).bind fun r => match r with
  | .nx e => t e
  | r => some r
@[simp] def mIfS (c : MT) (s t : MS) : MS := fun env => (c env).bind fun x => if x.1 = true then s x.2 else t x.2
@[simp] def mDrop (a : ME) : MS := fun env => (a env).bind fun x => some (.nx x.2)
/-- what is handed back: a slot's own object goes with it -/
@[simp] def back (env : Env) : PV → Option PV
  | .d x => some (.d x)
  | .new o => some (.new o)
  | .slot i => match sget env i with
    | some (.own false o) => some (.new o)
    | _ => none
  | .tup _ => none
@[simp] def backs (env : Env) : List PV → Option (List PV)
  | [] => some []
  | x :: r => (back env x).bind fun y => (backs env r).bind fun ys => some (y :: ys)
@[simp] def mRet (a : ME) : MS := fun env => (a env).bind fun x => (back x.2 x.1).bind fun y => some (.ret y x.2)
@[simp] def mRetN : MS := fun env => some (.ret (.d .none) env)
/-- return (a, ..) with one's own objects within -/
@[simp] def mRetT (a : MA) : MS := fun env => (a env).bind fun xs => if okSlots xs.1 = true ∧ xs.1.length ≤ 1000 then (backs xs.2 xs.1).bind fun ys => some (.ret (.tup ys) xs.2) else none
@[simp] def mAug (i : Nat) (f : RV → RV → Option PV) (a : ME) : MS := fun env => match sget env i with
  | some (.d x) => (a env).bind fun y => (rd y.2 y.1).bind fun t => (f (.d x) t).bind fun p => (store i p y.2).bind fun e => some (.nx e)
  | _ => none
def EndR (Z : Zn) (B : Bs) (Hb : Hp) (D : Ends) : Rs → Prop
  | .nx e => ∀ σ Hb' H, Sta Z B Hb' H σ e → Ex Hb Hb' → D.nx σ H
  | .bk e => ∀ σ Hb' H, Sta Z B Hb' H σ e → Ex Hb Hb' → D.bk σ H
  | .ct e => ∀ σ Hb' H, Sta Z B Hb' H σ e → Ex Hb Hb' → D.ct σ H
  | .ret pv e => ∀ v σ Hb' H, Sta Z B Hb' H σ e → Ex Hb Hb' → VR Z B.H0 Hb' H [] v pv → D.rt v H
def tS (Z : Zn) (m : MS) : TS := fun D σ H => ∃ B Hb env r, Sta Z B Hb H σ env ∧ m env = some r ∧ EndR Z B Hb D r
def tG (Z : Zn) (is : List Nat) (m : MG) : TG := fun v σ H Q => ∃ B Hb H0 env pv env', Sta Z B Hb H σ env ∧ (∀ p, Ow env σ p → H0 p ≠ none) ∧ (∀ p, H0 p = none → B.H0 p = none) ∧ VR Z H0 Hb H σ v pv ∧ m pv env = some env' ∧
  ∀ σ', Sta Z B Hb H σ' env' → (∀ vs, (∀ i ∈ is, i ∈ vs) → wipe σ' vs = wipe σ vs) → (∀ p, Ow env' σ' p → Ow env σ p ∨ H0 p = none) → Q σ' H
theorem sget_lt {sv : SV} : ∀ {e : Env} {i : Nat}, sget e i = some sv → i < e.length
  | [], _, h => by cases h
  | _ :: _, 0, _ => Nat.zero_lt_succ _
  | _ :: r, i + 1, h => Nat.succ_lt_succ (sget_lt (e := r) h)
theorem wipe_set {σ : L2.St} {i : Nat} {x : Option V} : ∀ {vs : List Nat}, i ∈ vs → wipe (σ.set i x) vs = wipe σ vs
  | [], h => by simp at h
  | v :: vs, h => by
    unfold wipe
    by_cases hi : i ∈ vs
    · rw [wipe_set hi]
    · have e : i = v := by rcases List.mem_cons.mp h with z | z; exact z; exact absurd z hi
      subst e
      have z : ∀ {σ : L2.St} {x : Option V}, (wipe (σ.set i x) vs).set i none = (wipe σ vs).set i none := by
        intro σ x
        apply List.ext_getElem?
        intro j
        by_cases hj : i = j
        · subst hj
          simp [List.getElem?_set, wipe_length]
        · rw [List.getElem?_set_ne hj, List.getElem?_set_ne hj]
          by_cases hm : j ∈ vs
          · have w : ∀ (σ : L2.St) (us : List Nat), j ∈ us → (wipe σ us)[j]? = if j < σ.length then some none else none := by
              intro σ us
              induction us with
              | nil => intro z; simp at z
              | cons u us ih =>
                intro z
                unfold wipe
                by_cases hu : u = j
                · subst hu; simp [List.getElem?_set, wipe_length]
                · rw [List.getElem?_set_ne hu]
                  exact ih (by rcases List.mem_cons.mp z with q | q; exact absurd q.symm hu; exact q)
            rw [w _ vs hm, w _ vs hm, List.length_set]
          · rw [wipe_out hm, wipe_out hm, List.getElem?_set_ne hj]
      exact z
section
variable {Z : Zn} {B : Bs} {Hb H Hb1 H1 Hb2 Hb' H' H0 : Hp} {σ : L2.St} {env env1 env' : Env} {p : Addr} {o : Ob} {v : V} {pv : PV} {i : Nat}
theorem Sta.store (st : Sta Z B Hb H σ env) (hv : ∀ x, pv = .d x → Dp Z.K Hb v x) (ho : ∀ o, pv = .new o → ∃ p, v = .ref p ∧ ¬ Ow env σ p ∧ Hb p = none ∧ B.H0 p = none ∧ OwnR Z Hb H p o) (e : Ol.store i pv env = some env') :
    Sta Z B Hb H (σ.set i (some v)) env' ∧ ∀ q, Ow env' (σ.set i (some v)) q → Ow env σ q ∨ (v = .ref q ∧ ∃ o, pv = .new o) := by
  have e' : ∃ sv, svOf pv = some sv ∧ env' = sset env i (some sv) := by
    unfold Ol.store at e
    split at e
    · cases e
    · simp only [Option.bind_eq_some_iff] at e
      obtain ⟨sv, h1, h2⟩ := e
      cases h2
      exact ⟨sv, h1, rfl⟩
  obtain ⟨sv, hs, rfl⟩ := e'
  have hi : ∀ {x}, sget (sset env i (some sv)) i = some x → i < σ.length ∧ x = sv := fun {x} h => by
    have h1 := sget_lt h
    rw [sset_length, ← st.len] at h1
    exact ⟨h1, (Option.some.inj (sget_set_some h)).symm⟩
  have hown : ∀ (j : Nat) (b : Bool) (o : Ob) (q : Addr), sget (sset env i (some sv)) j = some (.own b o) → (σ.set i (some v))[j]? = some (some (.ref q)) → (j = i ∧ v = .ref q ∧ b = false ∧ pv = .new o) ∨ (j ≠ i ∧ sget env j = some (.own b o) ∧ σ[j]? = some (some (.ref q))) := by
    intro j b o q h1 h2
    by_cases hj : i = j
    · subst hj
      obtain ⟨hl, hx⟩ := hi h1
      rw [List.getElem?_set_self hl] at h2
      subst hx
      cases pv with
      | d x => cases hs
      | new o' => cases hs; exact .inl ⟨rfl, Option.some.inj (Option.some.inj h2), rfl, rfl⟩
      | slot k => cases hs
      | tup xs => cases hs
    · rw [sget_set_ne hj] at h1
      rw [List.getElem?_set_ne hj] at h2
      exact .inr ⟨fun z => hj z.symm, h1, h2⟩
  refine ⟨⟨st.ny, fun j sv' h => ?_, fun j k q b o b' o' h1 h2 h3 h4 => ?_, by rw [List.length_set, sset_length]; exact st.len⟩, fun q ⟨j, b, o, h1, h2⟩ => ?_⟩
  · by_cases hj : i = j
    · subst hj
      obtain ⟨hl, hx⟩ := hi h
      subst hx
      cases pv with
      | d x => cases hs; exact ⟨v, List.getElem?_set_self hl, hv x rfl⟩
      | new o =>
        cases hs
        obtain ⟨p, rfl, h1, h2, h3, h4⟩ := ho o rfl
        exact ⟨p, List.getElem?_set_self hl, h2, h4, (fun z => by cases z), fun _ => h3⟩
      | slot k => cases hs
      | tup xs => cases hs
    · rw [sget_set_ne hj] at h
      have w := st.sl j sv' h
      cases sv' with
      | d x => obtain ⟨u, h1, h2⟩ := w; exact ⟨u, by rw [List.getElem?_set_ne hj]; exact h1, h2⟩
      | own b o => obtain ⟨p, h1, h2⟩ := w; exact ⟨p, by rw [List.getElem?_set_ne hj]; exact h1, h2⟩
  · rcases hown j b o q h1 h3 with ⟨z1, z2, _, z4⟩ | ⟨z1, z2, z3⟩
    · rcases hown k b' o' q h2 h4 with ⟨y1, _⟩ | ⟨y1, y2, y3⟩
      · rw [z1, y1]
      · obtain ⟨p, w1, w2, _⟩ := ho o z4
        rw [z2] at w1
        cases w1
        exact absurd ⟨k, _, _, y2, y3⟩ w2
    · rcases hown k b' o' q h2 h4 with ⟨y1, y2, _, y4⟩ | ⟨y1, y2, y3⟩
      · obtain ⟨p, w1, w2, _⟩ := ho o' y4
        rw [y2] at w1
        cases w1
        exact absurd ⟨j, _, _, z2, z3⟩ w2
      · exact st.df j k q _ _ _ _ z2 y2 z3 y3
  · rcases hown j b o q h1 h2 with ⟨_, z2, _, z4⟩ | ⟨_, z2, z3⟩
    · exact .inr ⟨z2, o, z4⟩
    · exact .inl ⟨j, b, o, z2, z3⟩
def gNames : List Nat → TGs
  | [] => gNil
  | i :: r => gCons (gName i) (gNames r)
theorem Sta.stores : ∀ {is : List Nat} {pvs : List PV} {vs : List V} {ps : List Addr} {σ : L2.St} {σv : L2.St} {env env' : Env}, Sta Z B Hb H σ env → VRs Z H0 Hb H σv vs pvs ps → (∀ p ∈ ps, ¬ Ow env σ p) → (∀ p ∈ ps, B.H0 p = none) → Ol.stores is pvs env = some env' →
    ∀ Q : L2.St → Hp → Prop, (∀ σ', Sta Z B Hb H σ' env' → (∀ us, (∀ i ∈ is, i ∈ us) → wipe σ' us = wipe σ us) → (∀ p, Ow env' σ' p → Ow env σ p ∨ p ∈ ps) → Q σ' H) → vs.length = is.length ∧ (gNames is) vs σ H Q
  | [], [], _, _, σ, _, _, _, st, h, _, _, e, Q, q => by
    cases h
    cases e
    exact ⟨rfl, rfl, q σ st (fun _ _ => rfl) fun _ z => .inl z⟩
  | i :: is, x :: xs, _, _, σ, σv, env, _, st, h, hp, hb, e, Q, q => by
    simp only [Ol.stores, Option.bind_eq_some_iff] at e
    obtain ⟨e1, h1, h2⟩ := e
    have lift : ∀ {v : V} {σ' : L2.St}, (∀ us, (∀ i ∈ is, i ∈ us) → wipe σ' us = wipe (σ.set i (some v)) us) → ∀ us, (∀ j ∈ i :: is, j ∈ us) → wipe σ' us = wipe σ us := fun {v σ'} w us hu => by
      rw [w us fun j hj => hu j (List.mem_cons_of_mem _ hj)]
      exact wipe_set (hu i List.mem_cons_self)
    cases h with
    | d a t =>
      rename_i v y vs
      obtain ⟨st1, ow1⟩ := st.store (v := v) (fun y hy => by cases hy; exact a) (fun o ho => by cases ho) h1
      obtain ⟨l, g⟩ := Sta.stores st1 t (fun p hp' w => by
        rcases ow1 p w with z | ⟨_, o, z⟩
        · exact hp p hp' z
        · cases z) hb h2 Q fun σ' s w y => q σ' s (lift w) fun p hp' => by
          rcases y p hp' with z | z
          · rcases ow1 p z with z | ⟨_, o, z⟩
            · exact .inl z
            · cases z
          · exact .inr z
      exact ⟨congrArg Nat.succ l, v, vs, rfl, g⟩
    | new a b c n t =>
      rename_i p o vs ps
      obtain ⟨st1, ow1⟩ := st.store (v := .ref p) (fun y hy => by cases hy) (fun o' ho => by cases ho; exact ⟨p, rfl, hp p List.mem_cons_self, b, hb p List.mem_cons_self, c⟩) h1
      obtain ⟨l, g⟩ := Sta.stores st1 t (fun p' hp' w => by
        rcases ow1 p' w with z | ⟨z, _⟩
        · exact hp p' (List.mem_cons_of_mem _ hp') z
        · cases z; exact n hp') (fun p' hp' => hb p' (List.mem_cons_of_mem _ hp')) h2 Q fun σ' s w y => q σ' s (lift w) fun p' hp' => by
        rcases y p' hp' with z | z
        · rcases ow1 p' z with z | ⟨z, _⟩
          · exact .inl z
          · cases z; exact .inr List.mem_cons_self
        · exact .inr (List.mem_cons_of_mem _ z)
      exact ⟨congrArg Nat.succ l, .ref p, vs, rfl, g⟩
    | slot a t =>
      unfold Ol.store at h1
      split at h1
      · cases h1
      · cases h1
  | [], _ :: _, _, _, _, _, _, _, _, _, _, _, e, _, _ => by cases e
  | _ :: _, [], _, _, _, _, _, _, _, _, _, _, e, _, _ => by cases e
theorem VRs.ofD : ∀ {ds : List D} {vs : List V}, DpAll Z.K Hb vs ds → VRs Z H0 Hb H σ vs (ds.map .d) []
  | [], _, h => by cases h; exact .nil
  | y :: ys, _, h => by cases h with | cons a b => exact .d a (VRs.ofD b)
theorem rg_name {Q : L2.St → Hp → Prop} (h : tG Z [i] (Ol.store i) v σ H Q) : gName i v σ H Q := by
  obtain ⟨B, Hb, H0, env, pv, env', st, h0, hb, rv, e, q⟩ := h
  obtain ⟨st1, ow1⟩ := st.store (v := v) (fun y hy => by subst hy; cases rv with | d a => exact a) (fun o ho => by
    subst ho
    cases rv with
    | new a b c => exact ⟨_, rfl, fun w => h0 _ w a, b, hb _ a, c⟩) e
  exact q _ st1 (fun vs hu => wipe_set (hu i (by simp))) fun p hp => by
    rcases ow1 p hp with z | ⟨z, o, rfl⟩
    · exact .inl z
    · cases rv with
      | new a b c => cases z; exact .inr a
theorem rg_names {is : List Nat} {Q : L2.St → Hp → Prop} (h : tG Z is (mNames is) v σ H Q) : gTup Z.K is.length (gNames is) v σ H Q := by
  obtain ⟨B, Hb, H0, env, pv, env', st, h0, hb, rv, e, q⟩ := h
  simp only [mNames, Option.bind_eq_some_iff] at e
  obtain ⟨xs, h1, h2⟩ := e
  cases rv with
  | d a =>
    cases a with
    | tup s t _ =>
      cases h1
      obtain ⟨l, g⟩ := Sta.stores st (VRs.ofD (H0 := H0) (H := H) (σ := σ) t) (by simp) (by simp) h2 Q fun σ' s w y => q σ' s w fun p hp => (y p hp).imp id fun z => by simp at z
      exact ⟨_, _, rfl, sqt_ex st.sub s, l, g⟩
    | _ => cases h1
  | new a b c => cases h1
  | slot a => cases h1
  | tup s t =>
    cases h1
    obtain ⟨l, g⟩ := Sta.stores st t (fun p hp w => h0 p w (t.fresh p hp)) (fun p hp => hb p (t.fresh p hp)) h2 Q fun σ' s w y => q σ' s w fun p hp => (y p hp).imp id fun z => t.fresh p z
    exact ⟨_, _, rfl, sqt_ex st.sub s, l, g⟩
/-! statements -/
variable {a : ME} {D : Ends}
theorem Sta.h0 (st : Sta Z B Hb H σ env) : ∀ p, H p = none → B.H0 p = none := st.ny.back
theorem rs_asg {is : List Nat} {g : MG} (h : tS Z (mAsg g a) D σ H) : tAsg (tI Z a) (tG Z is g) D σ H := by
  obtain ⟨B, Hb, env, r, st, e, q⟩ := h
  simp only [mAsg, Option.bind_eq_some_iff] at e
  obtain ⟨⟨x, e1⟩, ha, e2, h1, h2⟩ := e
  cases h2
  exact ⟨B, Hb, env, x, e1, st, ha, fun v Hb' H' g1 rv => ⟨B, Hb', H, e1, x, e2, g1.st, fun p hp => own_some st p (g1.ow p hp), st.h0, rv, h1, fun σ' s _ _ => q σ' Hb' H' s g1.ny.kb⟩⟩
theorem rs_skip (h : tS Z mSkip D σ H) : tNext D σ H := by
  obtain ⟨B, Hb, env, r, st, e, q⟩ := h
  cases e
  exact q σ Hb H st .rfl
theorem rs_break (h : tS Z mBreak D σ H) : tBreak D σ H := by
  obtain ⟨B, Hb, env, r, st, e, q⟩ := h
  cases e
  exact q σ Hb H st .rfl
theorem rs_cont (h : tS Z mCont D σ H) : tCont D σ H := by
  obtain ⟨B, Hb, env, r, st, e, q⟩ := h
  cases e
  exact q σ Hb H st .rfl
theorem rs_bad (h : tS Z mBad D σ H) : tNever D σ H := by
  obtain ⟨B, Hb, env, r, st, e, q⟩ := h
  cases e
theorem EndR.more {r : Rs} (e : Ex Hb Hb1) (q : EndR Z B Hb D r) : EndR Z B Hb1 D r := by
  cases r with
  | nx x => exact fun σ Hb' H s w => q σ Hb' H s (e.trans w)
  | bk x => exact fun σ Hb' H s w => q σ Hb' H s (e.trans w)
  | ct x => exact fun σ Hb' H s w => q σ Hb' H s (e.trans w)
  | ret v x => exact fun v σ Hb' H s w => q v σ Hb' H s (e.trans w)
theorem rs_seq {s t : MS} (h : tS Z (mSeq s t) D σ H) : tSeq (tS Z s) (tS Z t) D σ H := by
  obtain ⟨B, Hb, env, r, st, e, q⟩ := h
  simp only [mSeq, Option.bind_eq_some_iff] at e
  obtain ⟨r1, h1, h2⟩ := e
  refine ⟨B, Hb, env, r1, st, h1, ?_⟩
  cases r1 with
  | nx e1 => exact fun σ' Hb' H' s' w => ⟨B, Hb', e1, r, s', h2, q.more w⟩
  | bk e1 => cases h2; exact q
  | ct e1 => cases h2; exact q
  | ret v e1 => cases h2; exact q
theorem rs_if {c : MT} {s t : MS} (h : tS Z (mIfS c s t) D σ H) : tIfS (tIT Z c) (tS Z s) (tS Z t) D σ H := by
  obtain ⟨B, Hb, env, r, st, e, q⟩ := h
  simp only [mIfS, Option.bind_eq_some_iff] at e
  obtain ⟨⟨x, e1⟩, ha, h2⟩ := e
  refine ⟨B, Hb, env, x, e1, st, ha, fun Hb1 H1 g1 => ?_⟩
  cases x with
  | true => exact (if_pos (rfl : true = true)).mpr ⟨B, Hb1, e1, r, g1.st, h2, q.more g1.ny.kb⟩
  | false => exact (if_neg Bool.false_ne_true).mpr ⟨B, Hb1, e1, r, g1.st, h2, q.more g1.ny.kb⟩
theorem rs_drop (h : tS Z (mDrop a) D σ H) : tDrop (tI Z a) D σ H := by
  obtain ⟨B, Hb, env, r, st, e, q⟩ := h
  simp only [mDrop, Option.bind_eq_some_iff] at e
  obtain ⟨⟨x, e1⟩, ha, h2⟩ := e
  cases h2
  exact ⟨B, Hb, env, x, e1, st, ha, fun v Hb' H' g1 rv => q σ Hb' H' g1.st g1.ny.kb⟩
theorem VRs.noσ : ∀ {pvs ys : List PV} {vs : List V} {ps : List Addr}, Sta Z B Hb H σ env → (∀ p, Ow env σ p → H0 p ≠ none) → (∀ p, H0 p = none → B.H0 p = none) → okSlots pvs = true → VRs Z H0 Hb H σ vs pvs ps → backs env pvs = some ys →
    ∃ ps', VRs Z B.H0 Hb H [] vs ys ps' ∧ ∀ p ∈ ps', p ∈ ps ∨ ∃ (j : Nat), PV.slot j ∈ pvs ∧ (∃ b o, sget env j = some (.own b o)) ∧ σ[j]? = some (some (.ref p))
  | [], _, _, _, st, h0, hb, ok, h, e => by
    cases h
    cases e
    exact ⟨[], .nil, by simp⟩
  | x :: r, _, _, _, st, h0, hb, ok, h, e => by
    simp only [backs, Option.bind_eq_some_iff] at e
    obtain ⟨y, e1, ys, e2, e3⟩ := e
    cases e3
    have ok' := okSlots_tail ok
    cases h with
    | d a t =>
      obtain ⟨ps', q, w⟩ := t.noσ st h0 hb ok' e2
      cases e1
      exact ⟨ps', .d a q, fun p hp => (w p hp).imp id fun ⟨j, h1, h2⟩ => ⟨j, List.mem_cons_of_mem _ h1, h2⟩⟩
    | new a b c n t =>
      rename_i p o vs ps
      obtain ⟨ps', q, w⟩ := t.noσ st h0 hb ok' e2
      cases e1
      refine ⟨p :: ps', .new (hb p a) b c (fun hp => ?_) q, fun p' hp' => ?_⟩
      · rcases w p hp with z | ⟨j, _, ⟨bb, oo, z⟩, z2⟩
        · exact n z
        · exact h0 p ⟨j, bb, oo, z, z2⟩ a
      · rcases List.mem_cons.mp hp' with z | z
        · exact .inl (z ▸ List.mem_cons_self)
        · exact (w p' z).imp (fun z => List.mem_cons_of_mem _ z) fun ⟨j, h1, h2⟩ => ⟨j, List.mem_cons_of_mem _ h1, h2⟩
    | slot a t =>
      rename_i v i vs
      obtain ⟨ps', q, w⟩ := t.noσ st h0 hb ok' e2
      simp only [back] at e1
      cases z : sget env i with
      | none => rw [z] at e1; cases e1
      | some sv =>
        rw [z] at e1
        cases sv with
        | d y => cases e1
        | own b o =>
          cases b with
          | true => cases e1
          | false =>
            cases e1
            obtain ⟨p, q1, q2, q3, _, q5⟩ := st.sl i _ z
            rw [a] at q1
            cases q1
            refine ⟨p :: ps', .new (q5 rfl) q2 q3 (fun hp => ?_) q, fun p' hp' => ?_⟩
            · rcases w p hp with z' | ⟨j, hj, ⟨bb, oo, z1⟩, z2⟩
              · exact h0 p ⟨i, _, _, z, a⟩ (t.fresh p z')
              · have y := st.df i j p _ _ _ _ z z1 a z2
                subst y
                obtain ⟨k, hk⟩ := List.getElem?_of_mem hj
                have y := okSlots_eq ok (j := 0) (k := k + 1) (i := i) rfl (by simpa using hk)
                omega
            · rcases List.mem_cons.mp hp' with z' | z'
              · subst z'; exact .inr ⟨i, List.mem_cons_self, ⟨_, _, z⟩, a⟩
              · exact (w p' z').imp id fun ⟨j, h1, h2⟩ => ⟨j, List.mem_cons_of_mem _ h1, h2⟩
theorem rs_ret (h : tS Z (mRet a) D σ H) : tRet (tI Z a) D σ H := by
  obtain ⟨B, Hb, env, r, st, e, q⟩ := h
  simp only [mRet, Option.bind_eq_some_iff] at e
  obtain ⟨⟨x, e1⟩, ha, y, h1, h2⟩ := e
  cases h2
  refine ⟨B, Hb, env, x, e1, st, ha, fun v Hb' H' g1 rv => q v σ Hb' H' g1.st g1.ny.kb ?_⟩
  cases rv with
  | d z => cases h1; exact .d z
  | new z1 z2 z3 => cases h1; exact .new (st.h0 _ z1) z2 z3
  | slot z =>
    rename_i i
    simp only [back] at h1
    cases w : sget e1 i with
    | none => rw [w] at h1; cases h1
    | some sv =>
      rw [w] at h1
      cases sv with
      | d y => cases h1
      | own b o =>
        cases b with
        | true => cases h1
        | false =>
          cases h1
          obtain ⟨p, q1, q2, q3, _, q5⟩ := g1.st.sl i _ w
          rw [z] at q1
          cases q1
          exact .new (q5 rfl) q2 q3
  | tup z t =>
    cases h1
theorem rs_retN (h : tS Z mRetN D σ H) : tRetN D σ H := by
  obtain ⟨B, Hb, env, r, st, e, q⟩ := h
  cases e
  exact q .non σ Hb H st .rfl (.d .non)
theorem rs_retT {ma : MA} (h : tS Z (mRetT ma) D σ H) : tRet (tTup (tIA Z ma)) D σ H := by
  obtain ⟨B, Hb, env, r, st, e, q⟩ := h
  simp only [mRetT, Option.bind_eq_some_iff] at e
  obtain ⟨⟨xs, e1⟩, ha, e⟩ := e
  split at e
  · rename_i ok
    simp only [Option.bind_eq_some_iff] at e
    obtain ⟨ys, h1, h2⟩ := e
    cases h2
    refine ⟨B, Hb, env, xs, e1, st, ha, fun vs ps Hb' H' g1 rv => ?_⟩
    have hz : vs.length ≤ 1000 := by rw [rv.len]; exact ok.2
    refine ⟨Nat.le_trans hz (by decide), fun p hp => ?_⟩
    have n := Nx.new (o := .tup vs) g1.st.sub hp
    have g2 := g1.nx n
    have rv2 := rv.keep (fun p hp => own_some st p (g1.ow p hp)) n.to
    obtain ⟨ps', w, _⟩ := rv2.noσ g2.st (fun p hp => own_some st p (g2.ow p hp)) st.h0 ok.1 h1
    exact q _ σ _ _ g2.st g2.ny.kb (.tup (.inl (.of upd_same)) w)
  · cases e
end
end Ol
set_option Elab.async false
set_option linter.all false
set_option maxRecDepth 100000
set_option maxHeartbeats 4000000
/-! own: loops, comprehensions, methods, the body of a function -/
namespace Ol
open PySem PySem.Spec PyProof.Rows L2
abbrev MI := Env → Option (List D × Env)
def ItR (Z : Zn) (J : It) (ds : List D) (Hk : Hp) : Prop := ∃ (G : Hp → Prop) (Y : Nat → Hp → V → Hp → Prop), Walk J ds.length G Y ∧ (∀ H, Ex Hk H → G H) ∧
  ∀ (i : Nat) (Hb H : Hp) (x : V) (H' : Hp), i < ds.length → Ex Hk Hb → Ex Hb H → Y i H x H' → ∃ Hb' d, Nx Hb H Hb' H' ∧ ds[i]? = some d ∧ Dp Z.K Hb' x d
def tII (Z : Zn) (m : MI) : TI := fun σ H R => ∃ B Hb env ds env', Sta Z B Hb H σ env ∧ m env = some (ds, env') ∧ ∀ J Hb' H', Go Z B σ env Hb H env' Hb' H' → ItR Z J ds Hb' → R J H'
def forL (g : MG) (body : MS) : List D → Env → Option Rs
  | [], e => some (.nx e)
  | x :: r, e => (g (.d x) e).bind fun e1 => (body e1).bind fun rs => match rs with
    | .nx e2 => forL g body r e2
    | .ct e2 => forL g body r e2
    | .bk e2 => some (.nx e2)
    | .ret v e2 => some (.ret v e2)
def mFor (g : MG) (it : MI) (body : MS) : MS := fun env => (it env).bind fun x => forL g body x.1 x.2
def wipeE (e : Env) : List Nat → Env
  | [] => e
  | v :: vs => sset (wipeE e vs) v none
/-- the slots vs as they were in e -/
def restE (e z : Env) : List Nat → Env
  | [] => z
  | v :: vs => sset (restE e z vs) v (sget e v)
def compL (own : List Nat) (g : MG) (c : MT) (elt : ME) : List D → Env → List D → Option (List D × Env)
  | [], e, acc => some (acc, e)
  | x :: r, e, acc => (g (.d x) e).bind fun e1 => (c e1).bind fun b => if b.1 = true then (elt b.2).bind fun y => (fz y.1).bind fun d => if acc.length < 100000 then compL own g c elt r (wipeE y.2 own) (acc ++ [d]) else none else compL own g c elt r (wipeE b.2 own) acc
def mComp (own : List Nat) (g : MG) (it : MI) (c : MT) (elt : ME) : ME := fun env => (it env).bind fun x => (compL own g c elt x.1 (wipeE x.2 own) []).bind fun z => some (.new (.lst z.1), restE x.2 z.2 own)
theorem wipeE_len {e : Env} : ∀ {vs : List Nat}, (wipeE e vs).length = e.length
  | [] => rfl
  | v :: vs => by unfold wipeE; rw [sset_length, wipeE_len]
theorem restE_len {e z : Env} : ∀ {vs : List Nat}, (restE e z vs).length = z.length
  | [] => rfl
  | v :: vs => by unfold restE; rw [sset_length, restE_len]
theorem wipeE_some {e : Env} {i : Nat} {sv : SV} : ∀ {vs : List Nat}, sget (wipeE e vs) i = some sv → sget e i = some sv ∧ i ∉ vs
  | [], h => ⟨h, by simp⟩
  | v :: vs, h => by
    unfold wipeE at h
    by_cases hi : v = i
    · subst hi; have z := sget_set_some h; cases z
    · rw [sget_set_ne hi] at h
      obtain ⟨h1, h2⟩ := wipeE_some h
      exact ⟨h1, fun m => by rcases List.mem_cons.mp m with z | z; exact hi z.symm; exact h2 z⟩
theorem restE_some {e z : Env} {i : Nat} {sv : SV} : ∀ {vs : List Nat}, sget (restE e z vs) i = some sv → (i ∈ vs ∧ sget e i = some sv) ∨ (i ∉ vs ∧ sget z i = some sv)
  | [], h => .inr ⟨by simp, h⟩
  | v :: vs, h => by
    unfold restE at h
    by_cases hi : v = i
    · subst hi; exact .inl ⟨List.mem_cons_self, sget_set_some h⟩
    · rw [sget_set_ne hi] at h
      rcases restE_some h with ⟨h1, h2⟩ | ⟨h1, h2⟩
      · exact .inl ⟨List.mem_cons_of_mem _ h1, h2⟩
      · exact .inr ⟨fun m => by rcases List.mem_cons.mp m with z | z; exact hi z.symm; exact h1 z, h2⟩
section
variable {Z : Zn} {B : Bs} {Hb H Hb1 H1 Hb2 Hb' H' H0 : Hp} {σ : L2.St} {env env1 env' : Env} {p : Addr} {o : Ob} {v : V} {pv : PV} {i : Nat}
theorem drop_cons {α : Type} {l : List α} {i : Nat} (h : i < l.length) : l.drop i = l[i] :: l.drop (i + 1) := List.drop_eq_getElem_cons h
theorem rs_for {g : MG} {is : List Nat} {it : MI} {body : MS} {D : Ends} (h : tS Z (mFor g it body) D σ H) : tFor (tII Z it) (tG Z is g) (tS Z body) D σ H := by
  obtain ⟨B, Hb, env, r, st, e, q⟩ := h
  simp only [mFor, Option.bind_eq_some_iff] at e
  obtain ⟨⟨ds, e1⟩, ha, h2⟩ := e
  refine ⟨B, Hb, env, ds, e1, st, ha, fun J Hk H1 g1 w => ?_⟩
  obtain ⟨G, Y, wk, hG, hY⟩ := w
  refine for_it wk (fun i σ H => ∃ Hb env, Sta Z B Hb H σ env ∧ Ex Hk Hb ∧ forL g body (ds.drop i) env = some r) ⟨Hk, e1, g1.st, .rfl, by simpa using h2⟩ (fun i σ H hi ⟨Hb, env, s, ek, _⟩ => hG H (ek.trans s.sub)) (fun i x σ2 H2 H3 hi ⟨Hb2, env2, s2, ek, hf⟩ y => ?_) (fun σ2 H2 ⟨Hb2, env2, s2, ek, hf⟩ => ?_)
  · obtain ⟨Hb3, d, n, hd, hx⟩ := hY i Hb2 H2 x H3 hi ek s2.sub y
    rw [drop_cons hi] at hf
    have ed : ds[i] = d := by
      have z := List.getElem?_eq_getElem hi
      rw [hd] at z
      exact (Option.some.inj z).symm
    rw [ed] at hf
    simp only [forL, Option.bind_eq_some_iff] at hf
    obtain ⟨e3, h3, rs, h4, h5⟩ := hf
    have s3 := s2.step n
    refine ⟨B, Hb3, H3, env2, .d d, e3, s3, own_some s3, s3.h0, .d hx, h3, fun σ' s4 _ _ => ⟨B, Hb3, e3, rs, s4, h4, ?_⟩⟩
    cases rs with
    | nx e4 => exact fun σ5 Hb5 H5 s5 w5 => ⟨Hb5, e4, s5, (ek.trans n.kb).trans w5, h5⟩
    | ct e4 => exact fun σ5 Hb5 H5 s5 w5 => ⟨Hb5, e4, s5, (ek.trans n.kb).trans w5, h5⟩
    | bk e4 => cases h5; exact fun σ5 Hb5 H5 s5 w5 => q σ5 Hb5 H5 s5 ((g1.ny.kb.trans (ek.trans n.kb)).trans w5)
    | ret v e4 => cases h5; exact fun v σ5 Hb5 H5 s5 w5 => q v σ5 Hb5 H5 s5 ((g1.ny.kb.trans (ek.trans n.kb)).trans w5)
  · rw [List.drop_eq_nil_of_le (Nat.le_refl _)] at hf
    cases hf
    exact q σ2 Hb2 H2 s2 (g1.ny.kb.trans ek)
theorem Sta.wipe (st : Sta Z B Hb H σ env) (vs : List Nat) : Sta Z B Hb H (L2.wipe σ vs) (wipeE env vs) := by
  have up : ∀ {i : Nat} {sv : SV}, sget (wipeE env vs) i = some sv → sget env i = some sv ∧ (L2.wipe σ vs)[i]? = σ[i]? := fun {i sv} h => by
    obtain ⟨h1, h2⟩ := wipeE_some h
    exact ⟨h1, wipe_out h2⟩
  refine ⟨st.ny, fun i sv h => ?_, fun i j p b o b' o' h1 h2 h3 h4 => ?_, by rw [wipe_length, wipeE_len]; exact st.len⟩
  · obtain ⟨h1, h2⟩ := up h
    have w := st.sl i sv h1
    cases sv with
    | d x => obtain ⟨u, q1, q2⟩ := w; exact ⟨u, h2.trans q1, q2⟩
    | own b o => obtain ⟨u, q1, q2⟩ := w; exact ⟨u, h2.trans q1, q2⟩
  · obtain ⟨a1, a2⟩ := up h1
    obtain ⟨b1, b2⟩ := up h2
    rw [a2] at h3
    rw [b2] at h4
    exact st.df i j p _ _ _ _ a1 b1 h3 h4
theorem Ow.wipe {vs : List Nat} (h : Ow (wipeE env vs) (L2.wipe σ vs) p) : ∃ (i : Nat) (b : Bool) (o : Ob), i ∉ vs ∧ sget env i = Option.some (SV.own b o) ∧ σ[i]? = Option.some (Option.some (V.ref p)) := by
  obtain ⟨i, b, o, h1, h2⟩ := h
  obtain ⟨h3, h4⟩ := wipeE_some h1
  rw [wipe_out h4] at h2
  exact ⟨i, b, o, h4, h3, h2⟩
/-- a block's slots come back as they were -/
theorem Go.rest {vs : List Nat} {z : Env} (st : Sta Z B Hb H σ env) (g : Go Z B (L2.wipe σ vs) (wipeE env vs) Hb H z Hb' H') : Go Z B σ env Hb H (restE env z vs) Hb' H' := by
  have sub : ∀ p, Ow (wipeE env vs) (L2.wipe σ vs) p → Ow env σ p := fun p h => let ⟨i, b, o, _, h1, h2⟩ := Ow.wipe h; ⟨i, b, o, h1, h2⟩
  have ny := g.ny.mono sub
  have sl : ∀ i sv, sget (restE env z vs) i = some sv → SlotR Z B Hb' H' σ i sv ∧ (∀ b o, sv = .own b o → ∀ p, σ[i]? = some (some (.ref p)) → (i ∈ vs ∧ sget env i = some (.own b o)) ∨ (i ∉ vs ∧ sget z i = some (.own b o) ∧ Ow (wipeE env vs) (L2.wipe σ vs) p)) := fun i sv h => by
    rcases restE_some h with ⟨h1, h2⟩ | ⟨h1, h2⟩
    · have w := st.sl i sv h2
      refine ⟨?_, fun b o e p hp => .inl ⟨h1, e ▸ h2⟩⟩
      cases sv with
      | d x => obtain ⟨u, q1, q2⟩ := w; exact ⟨u, q1, Dp.ex g.ny.kb q2⟩
      | own b o =>
        obtain ⟨p, q1, q2, q3, q4⟩ := w
        refine ⟨p, q1, g.ny.fr p q3.some q2, q3.at g.ny.kb fun u y => g.ny.kh p u (fun s => ?_) y, q4⟩
        obtain ⟨j, b', o', j1, j2, j3⟩ := Ow.wipe s
        exact j1 (st.df i j p _ _ _ _ h2 j2 q1 j3 ▸ h1)
    · have w := g.st.sl i sv h2
      have hw : (L2.wipe σ vs)[i]? = σ[i]? := wipe_out h1
      refine ⟨?_, fun b o e p hp => .inr ⟨h1, e ▸ h2, g.ow p ⟨i, b, o, e ▸ h2, hw.trans hp⟩⟩⟩
      cases sv with
      | d x => obtain ⟨u, q1, q2⟩ := w; exact ⟨u, hw ▸ q1, q2⟩
      | own b o => obtain ⟨p, q1, q2⟩ := w; exact ⟨p, hw ▸ q1, q2⟩
  refine ⟨ny, ⟨st.ny.base ny st.own0, fun i sv h => (sl i sv h).1, fun i j p b o b' o' h1 h2 h3 h4 => ?_, ?_⟩, fun p ⟨i, b, o, h1, h2⟩ => ?_⟩
  · rcases (sl i _ h1).2 b o rfl p h3 with ⟨a1, a2⟩ | ⟨a1, a2, a3⟩
    · rcases (sl j _ h2).2 b' o' rfl p h4 with ⟨b1, b2⟩ | ⟨b1, b2, b3⟩
      · exact st.df i j p _ _ _ _ a2 b2 h3 h4
      · obtain ⟨k, _, _, k1, k2, k3⟩ := Ow.wipe b3
        exact absurd (st.df i k p _ _ _ _ a2 k2 h3 k3 ▸ a1) k1
    · rcases (sl j _ h2).2 b' o' rfl p h4 with ⟨b1, b2⟩ | ⟨b1, b2, b3⟩
      · obtain ⟨k, _, _, k1, k2, k3⟩ := Ow.wipe a3
        exact absurd (st.df j k p _ _ _ _ b2 k2 h4 k3 ▸ b1) k1
      · exact g.st.df i j p _ _ _ _ a2 b2 ((wipe_out a1).trans h3) ((wipe_out b1).trans h4)
  · rw [restE_len, ← g.st.len, wipe_length]
  · rcases (sl i _ h1).2 b o rfl p h2 with ⟨_, a2⟩ | ⟨_, _, a3⟩
    · exact ⟨i, b, o, a2, h2⟩
    · exact sub p a3
theorem Ny.upd {S : Addr → Prop} {D : Addr} {o : HO} (n : Ny S Hb H Hb' H') (h0 : H D = none) (h1 : Hb' D = none) : Ny S Hb H Hb' (upd H' D o) :=
  ⟨n.kb, n.sub.own h1, fun a u s e => by rw [upd_ne (ne_of_none e h0)]; exact n.kh a u s e, fun a e => by
    rw [upd_ne (fun z => e (by rw [z]; exact h0))]
    exact n.al a e, n.fr⟩
/-- a new object of one's own that no slot holds is written -/
theorem Sta.updN {D : Addr} {u : HO} (st : Sta Z B Hb H σ env) (h0 : B.H0 D = none) (hb : Hb D = none) (hn : ¬ Ow env σ D) : Sta Z B Hb (upd H D u) σ env := by
  refine ⟨st.ny.upd h0 hb, fun i sv e => ?_, st.df, st.len⟩
  have w := st.sl i sv e
  cases sv with
  | d x => exact w
  | own b o =>
    obtain ⟨p, q1, q2, q3, q4⟩ := w
    exact ⟨p, q1, q2, q3.at .rfl fun z y => by
      rw [upd_ne (fun hpd => hn ⟨i, b, o, e, by rw [← hpd]; exact q1⟩)]
      exact y, q4⟩
theorem wipe_at {τ : L2.St} {j : Nat} : ∀ {us : List Nat}, j ∈ us → (L2.wipe τ us)[j]? = if j < τ.length then some none else none
  | [], z => by simp at z
  | u :: us, z => by
    unfold L2.wipe
    by_cases hu : u = j
    · subst hu; simp [List.getElem?_set, wipe_length]
    · rw [List.getElem?_set_ne hu]
      exact wipe_at (by rcases List.mem_cons.mp z with q | q; exact absurd q.symm hu; exact q)
theorem wipe_wipe {τ : L2.St} {us : List Nat} : L2.wipe (L2.wipe τ us) us = L2.wipe τ us := by
  apply List.ext_getElem?
  intro j
  by_cases hj : j ∈ us
  · rw [wipe_at hj, wipe_at hj, wipe_length]
  · rw [wipe_out hj]
theorem re_comp {own : List Nat} {g : MG} {is : List Nat} {it : MI} {c : MT} {elt : ME} {Q : VK} (hi : ∀ i ∈ is, i ∈ own) (h : tI Z (mComp own g it c elt) σ H Q) : tLc (tII Z it) (tG Z is g) (tIT Z c) (tI Z elt) own σ H Q := by
  obtain ⟨B, Hb, env, pv, env', st, e, q⟩ := h
  simp only [mComp, Option.bind_eq_some_iff] at e
  obtain ⟨⟨ds, e1⟩, ha, ⟨res, ez⟩, h2, h3⟩ := e
  cases h3
  refine ⟨B, Hb, env, ds, e1, st, ha, fun J Hk H1 g1 w => ?_⟩
  intro D hD
  obtain ⟨G, Y, wk, hG, hY⟩ := w
  have stW := g1.st.wipe own
  have hDb : Hk D = none := g1.st.sub.free hD
  have hD0 : B.H0 D = none := g1.st.h0 D hD
  have nOw : ¬ Ow (wipeE e1 own) (L2.wipe σ own) D := fun z => own_some stW D z hD
  -- the invariant
  refine lc_it wk (fun i H => ∃ Hb env acc xs, Go Z B (L2.wipe σ own) (wipeE e1 own) Hk H1 env Hb H ∧ H D = some (.lst xs) ∧ Hb D = none ∧ DpAll Z.K Hb xs acc ∧ compL own g c elt (ds.drop i) env acc = some (res, ez))
    ⟨Hk, wipeE e1 own, [], [], ⟨(Ny.refl g1.st.sub).upd hD hDb, stW.updN hD0 hDb nOw, fun _ z => z⟩, upd_same, hDb, .nil, by simpa using h2⟩
    (fun i H hi ⟨Hb, env, acc, xs, s, _⟩ => hG H (s.ny.kb.trans s.st.sub)) (fun i x H2 H3 hlt ⟨Hb2, env2, acc, xs, s2, c1, c2, c3, hf⟩ y => ?_) (fun H2 ⟨Hb2, env2, acc, xs, s2, c1, c2, c3, hf⟩ => ?_)
  · obtain ⟨Hb3, d, n, hd, hx⟩ := hY i Hb2 H2 x H3 hlt s2.ny.kb s2.st.sub y
    rw [drop_cons hlt] at hf
    have ed : ds[i] = d := by
      have z := List.getElem?_eq_getElem hlt
      rw [hd] at z
      exact (Option.some.inj z).symm
    rw [ed] at hf
    simp only [compL, Option.bind_eq_some_iff] at hf
    obtain ⟨e3, h3, ⟨b, e4⟩, h4, h5⟩ := hf
    have s3 := s2.nx n
    have d3 : H3 D = some (.lst xs) := n.kh D _ id c1
    have nb3 : Hb3 D = none := n.fr D (by rw [c1]; simp) c2
    have nOw2 : ∀ p, Ow env2 (L2.wipe σ own) p → p ≠ D := fun p hp z => nOw (z ▸ s2.ow p hp)
    refine ⟨B, Hb3, H3, env2, .d d, e3, s3.st, own_some s3.st, s3.st.h0, .d hx, h3, fun σ' s4 hwp how => ?_⟩
    have hw := hwp own hi
    rw [wipe_wipe] at hw
    refine ⟨hw, B, Hb3, e3, b, e4, s4, h4, fun Hb5 H5 g5 => ?_⟩
    -- D is apart from what the slots hold
    have ow4 : ∀ p, Ow e3 σ' p → p ≠ D := fun p hp z => by
      rcases how p hp with w | w
      · exact nOw2 p w z
      · rw [z, d3] at w; cases w
    have d5 : H5 D = some (.lst xs) := g5.ny.kh D _ (fun z => ow4 D z rfl) d3
    have nb5 : Hb5 D = none := g5.ny.fr D (by rw [d3]; simp) nb3
    -- what stands behind the turn, seen from its start
    have close : ∀ {Hb6 H6 : Hp} {e6 : Env}, Go Z B σ' e3 Hb3 H3 e6 Hb6 H6 → Go Z B (L2.wipe σ own) (wipeE e1 own) Hk H1 (wipeE e6 own) Hb6 H6 := fun {Hb6 H6 e6} g6 => by
      have k : ∀ p, Ow (wipeE e6 own) (L2.wipe σ own) p → Ow env2 (L2.wipe σ own) p := fun p ⟨j, bb, oo, z1, z2⟩ => by
        obtain ⟨z3, z4⟩ := wipeE_some z1
        have z5 : σ'[j]? = some (some (.ref p)) := by
          rw [wipe_out z4] at z2
          have z6 : (L2.wipe σ' own)[j]? = (L2.wipe σ own)[j]? := by rw [hw]
          rw [wipe_out z4, wipe_out z4] at z6
          rw [z6]
          exact z2
        have z7 := g6.ow p ⟨j, bb, oo, z3, z5⟩
        rcases how p z7 with w | w
        · exact w
        · exact absurd w (own_some s4 p z7)
      refine ⟨?_, ?_, fun p hp => s3.ow p (k p hp)⟩
      · have t : Ny (Ow (wipeE e1 own) (L2.wipe σ own)) Hb3 H3 Hb6 H6 := g6.ny.mono fun p hp => by
          rcases how p hp with w | w
          · exact s3.ow p w
          · exact absurd w (own_some s4 p hp)
        exact s3.ny.trans t
      · have z := g6.st.wipe own
        rw [hw] at z
        exact z
    cases b with
    | false =>
      simp only [Bool.false_eq_true, if_false] at h5 ⊢
      exact ⟨Hb5, _, acc, xs, close g5, d5, nb5, DpAll.ex (n.kb.trans g5.ny.kb) c3, h5⟩
    | true =>
      simp only [if_true, Option.bind_eq_some_iff] at h5 ⊢
      obtain ⟨⟨y0, e5⟩, h6, d', h7, h8⟩ := h5
      refine ⟨B, Hb5, e4, y0, e5, g5.st, h6, fun v Hb6 H6 g6 rv => ?_⟩
      split at h8
      · rename_i hz
        have ow5 : ∀ p, Ow e4 σ' p → p ≠ D := fun p hp => ow4 p (g5.ow p hp)
        have d6 : H6 D = some (.lst xs) := g6.ny.kh D _ (fun z => ow5 D z rfl) d5
        have nb6 : Hb6 D = none := g6.ny.fr D (by rw [d5]; simp) nb5
        have hxs : xs.length = acc.length := DpAll.length c3
        refine ⟨xs, d6, Nat.lt_of_lt_of_le (by rw [hxs]; exact hz) (by decide), ?_⟩
        -- the element comes to be known
        obtain ⟨Hb7, kn, kz, dv⟩ : ∃ Hb7, Kn H5 Hb6 H6 Hb7 ∧ Hb7 D = none ∧ Dp Z.K Hb7 v d' := by
          cases rv with
          | d a => cases h7; exact ⟨Hb6, ⟨.rfl, g6.st.sub, fun _ _ z => z⟩, nb6, a⟩
          | new a b1 c =>
            rename_i p o
            cases c with
            | lst y1 y2 =>
              cases h7
              refine ⟨_, ⟨Ex.new b1, upd_ex g6.st.sub y1, fun y w1 w2 => ?_⟩, ?_, .lst (.inl (.of upd_same)) (DpAll.ex (Ex.new b1) y2)⟩
              · rw [upd_ne (fun w => w1 (by rw [w]; exact a))]; exact w2
              · rw [upd_ne (fun w => by rw [← w, d5] at a; cases a)]; exact nb6
            | set _ => cases h7
            | dic _ _ _ => cases h7
            | dit _ _ => cases h7
          | slot a => cases h7
          | tup a t => cases h7
        have g7 := (g5.trans g6).know s4 (Hb2 := Hb7) ⟨kn.kb, kn.sub, fun a w1 w2 => kn.fr a (g5.ny.al a w1) w2⟩
        have g8 := close g7
        refine ⟨Hb7, _, acc ++ [d'], xs ++ [v], ⟨g8.ny.upd hD kz, g8.st.updN hD0 kz fun z => nOw (g8.ow D z), g8.ow⟩, upd_same, kz, DpAll.append (DpAll.ex ((n.kb.trans (g5.ny.kb.trans g6.ny.kb)).trans kn.kb) c3) (.cons dv .nil), h8⟩
      · cases h8
  · rw [List.drop_eq_nil_of_le (Nat.le_refl _)] at hf
    cases hf
    exact q (.ref D) Hb2 H2 (g1.trans (s2.rest g1.st)) (.new (g1.ny.back D hD) c2 (.lst c1 c3))
end
end Ol
set_option Elab.async false
set_option linter.all false
set_option maxRecDepth 100000
set_option maxHeartbeats 4000000
/-! own: methods, items, the body of a function -/
namespace Ol
open PySem PySem.Spec PyProof.Rows L2
@[simp] def Ob.kind : Ob → Nat
  | .lst _ => 0
  | .set _ => 1
  | .dic _ => 2
  | .dit _ => 3
/-- a method of the object that slot i holds (kd: its kind) -/
@[simp] def mMeth (kd : Nat) (i : Nat) (f : Ob → List D → Option (PV × Ob)) (a : MA) : ME := fun env => match sget env i with
  | some (.own _ o0) => if o0.kind = kd then (a env).bind fun xs => (fzs xs.1).bind fun ds => match sget xs.2 i with
    | some (.own b o) => (f o ds).bind fun r => some (r.1, sset xs.2 i (some (.own b r.2)))
    | _ => none
    else none
  | _ => none
/-- x[ix] = a, x the name of slot i -/
@[simp] def mSetIx (i : Nat) (f : Ob → D → D → Option Ob) (ix a : ME) : MS := fun env => (a env).bind fun x => (fz x.1).bind fun y => match sget x.2 i with
  | some (.own _ _) => (ix x.2).bind fun k => (fz k.1).bind fun kd => match sget k.2 i with
    | some (.own b o) => (f o kd y).bind fun o' => some (.nx (sset k.2 i (some (.own b o'))))
    | _ => none
  | _ => none
@[simp] def outsOf (e : Env) : Nat → List SV → Option (List (Option Ob))
  | _, [] => some []
  | i, .d _ :: r => (outsOf e (i + 1) r).bind fun os => some (none :: os)
  | i, .own _ _ :: r => match sget e i with
    | some (.own true o) => (outsOf e (i + 1) r).bind fun os => some (some o :: os)
    | _ => none
def runFn (np n : Nat) (body : MS) : Fn := fun svs => if svs.length = np then (body (svs.map some ++ List.replicate n none)).bind fun r => match r with
  | .nx e => (outsOf e 0 svs).bind fun os => some (.d .none, os)
  | .ret v e => (outsOf e 0 svs).bind fun os => some (v, os)
  | _ => none
  else none
def OpM (Z : Zn) (r : V → List V → Hp → VK → Prop) (f : Ob → List D → Option (PV × Ob)) : Prop := ∀ Hb H p o vs ds pv o', Ex Hb H → OwnR Z Hb H p o → Hb p = none → DpAll Z.K Hb vs ds → f o ds = some (pv, o') →
  ∀ Q : VK, (∀ v u, OwnR Z Hb (upd H p u) p o' → VR Z H Hb (upd H p u) [] v pv → Q v (upd H p u)) → r (.ref p) vs H Q
def OpS (Z : Zn) (r : V → V → V → Hp → (Hp → Prop) → Prop) (f : Ob → D → D → Option Ob) : Prop := ∀ Hb H p o k x dk d o', Ex Hb H → OwnR Z Hb H p o → Hb p = none → Dp Z.K Hb k dk → Dp Z.K Hb x d → f o dk d = some o' →
  ∀ Q : Hp → Prop, (∀ u, OwnR Z Hb (upd H p u) p o' → Q (upd H p u)) → r (.ref p) k x H Q
section
variable {Z : Zn} {B : Bs} {Hb H Hb1 H1 Hb2 Hb' H' H0 : Hp} {σ : L2.St} {env env1 env' : Env} {p : Addr} {o o' : Ob} {v : V} {pv : PV} {i : Nat} {b : Bool}
theorem Go.put {u : HO} (st : Sta Z B Hb H σ env) (g : Go Z B σ env Hb H env1 Hb1 H1) (hi : sget env1 i = some (.own b o)) (hs : σ[i]? = some (some (.ref p))) (hw : OwnR Z Hb1 (upd H1 p u) p o') :
    Go Z B σ env Hb H (sset env1 i (some (.own b o'))) Hb1 (upd H1 p u) := by
  obtain ⟨q, q1, q2, q3, q4⟩ := g.st.sl i _ hi
  rw [hs] at q1
  cases q1
  have hp : Ow env σ p := g.ow p ⟨i, b, o, hi, hs⟩
  have ny : Ny (Ow env σ) Hb H Hb1 (upd H1 p u) := ⟨g.ny.kb, g.st.sub.own q2, fun a w s e => by
    rw [upd_ne (fun z => s (by rw [z]; exact hp))]
    exact g.ny.kh a w s e, fun a e => by
    by_cases z : a = p
    · rw [z, upd_same]; simp
    · rw [upd_ne z]; exact g.ny.al a e, g.ny.fr⟩
  have at' : ∀ (j : Nat) (sv : SV), sget (sset env1 i (some (.own b o'))) j = some sv → (j = i ∧ sv = .own b o') ∨ (j ≠ i ∧ sget env1 j = some sv) := fun j sv h => by
    by_cases hj : i = j
    · subst hj; exact .inl ⟨rfl, (Option.some.inj (sget_set_some h)).symm⟩
    · rw [sget_set_ne hj] at h; exact .inr ⟨fun z => hj z.symm, h⟩
  have ow' : ∀ (j : Nat) (b2 : Bool) (o2 : Ob), sget (sset env1 i (some (.own b o'))) j = some (.own b2 o2) → ∃ b3 o3, sget env1 j = some (.own b3 o3) := fun j b2 o2 h => by
    rcases at' j _ h with ⟨rfl, _⟩ | ⟨_, z⟩
    · exact ⟨_, _, hi⟩
    · exact ⟨_, _, z⟩
  refine ⟨ny, ⟨st.ny.base ny st.own0, fun j sv h => ?_, fun j k q b2 o2 b3 o3 h1 h2 h3 h4 => ?_, by rw [sset_length]; exact g.st.len⟩, fun q ⟨j, b2, o2, h1, h2⟩ => ?_⟩
  · rcases at' j sv h with ⟨rfl, rfl⟩ | ⟨hj, h⟩
    · exact ⟨p, hs, q2, hw, q4⟩
    · have w := g.st.sl j sv h
      cases sv with
      | d x => exact w
      | own b2 o2 =>
        obtain ⟨p2, w1, w2, w3, w4⟩ := w
        refine ⟨p2, w1, w2, w3.at .rfl fun z y => ?_, w4⟩
        rw [upd_ne (fun e => hj (g.st.df j i p2 _ _ _ _ h hi w1 (by rw [e]; exact hs)))]
        exact y
  · obtain ⟨_, _, z1⟩ := ow' j _ _ h1
    obtain ⟨_, _, z2⟩ := ow' k _ _ h2
    exact g.st.df j k q _ _ _ _ z1 z2 h3 h4
  · obtain ⟨_, _, z1⟩ := ow' j _ _ h1
    exact g.ow q ⟨j, _, _, z1, h2⟩
theorem meth_at {kd : Nat} {f : Ob → List D → Option (PV × Ob)} {ma : MA} {r : V → List V → Hp → VK → Prop} {Q : VK} (hr : OpM Z r f) (h : tI Z (mMeth kd i f ma) σ H Q) :
    ∃ (p : Addr) (o0 : Ob) (Hb : Hp), σ[i]? = some (some (.ref p)) ∧ o0.kind = kd ∧ OwnR Z Hb H p o0 ∧ tIA Z ma σ H fun vs H1 => r (.ref p) vs H1 Q := by
  obtain ⟨B, Hb, env, pv, env', st, e, q⟩ := h
  unfold mMeth at e
  cases h0 : sget env i with
  | none => rw [h0] at e; cases e
  | some sv =>
    rw [h0] at e
    cases sv with
    | d x => cases e
    | own b0 o0 =>
      simp only at e
      split at e
      · rename_i hk
        simp only [Option.bind_eq_some_iff] at e
        obtain ⟨⟨xs, e1⟩, ha, ds, h1, e⟩ := e
        obtain ⟨p, q1, q2, q3, q4⟩ := st.sl i _ h0
        refine ⟨p, o0, Hb, q1, hk, q3, B, Hb, env, xs, e1, st, ha, fun vs ps Hb1 H1 g1 rv => ?_⟩
        obtain ⟨Hb2, g2, hd⟩ := g1.kn st rv h1
        cases h2 : sget e1 i with
        | none => simp [h2] at e
        | some sv =>
          simp only [h2] at e
          cases sv with
          | d x => cases e
          | own b o =>
            simp only [Option.bind_eq_some_iff] at e
            obtain ⟨⟨pv', o'⟩, hf, e⟩ := e
            cases e
            obtain ⟨p', w1, w2, w3, w4⟩ := g2.st.sl i _ h2
            rw [q1] at w1
            cases w1
            exact hr Hb2 H1 p o vs ds pv' o' g2.st.sub w3 w2 hd hf Q fun v u hw rw' => q v Hb2 _ (g2.put st h2 q1 hw) (rw'.anyσ.from g2.ny.back)
      · cases e
theorem re_methL {T : String} {f : Ob → List D → Option (PV × Ob)} {ma : MA} {r : V → List V → Hp → VK → Prop} {Q : VK} (hT : T = "list") (hr : OpM Z r f) (h : tI Z (mMeth 0 i f ma) σ H Q) : tBM Z.K T r (tVar i) (tIA Z ma) σ H Q := by
  subst hT
  obtain ⟨p, o0, Hb, h1, h2, h3, h4⟩ := meth_at hr h
  cases h3 with
  | lst a b => exact ⟨_, h1, .inl ⟨rfl, _, .inl (.of a)⟩, h4⟩
  | set a => cases h2
  | dic a b c => cases h2
  | dit a b => cases h2
theorem re_nilA {ma : MA} {Q : List V → Hp → Prop} (hn : ma = mNil) (h : tIA Z ma σ H Q) : Q [] H := by
  subst hn
  obtain ⟨B, Hb, env, pv, env', st, e, q⟩ := h
  cases e
  exact q [] [] Hb H (.refl st) .nil
theorem re_methL0 {T : String} {f : Ob → List D → Option (PV × Ob)} {r : V → List V → Hp → VK → Prop} {Q : VK} (hT : T = "list") (hr : OpM Z r f) (h : tI Z (mMeth 0 i f mNil) σ H Q) : tBM0 Z.K T r (tVar i) σ H Q := by
  subst hT
  obtain ⟨p, o0, Hb, h1, h2, h3, h4⟩ := meth_at hr h
  cases h3 with
  | lst a b => exact ⟨_, h1, .inl ⟨rfl, _, .inl (.of a)⟩, re_nilA rfl h4⟩
  | set a => cases h2
  | dic a b c => cases h2
  | dit a b => cases h2
theorem re_saddK {f : Ob → List D → Option (PV × Ob)} {ma : MA} {Q : VK} (hr : OpM Z (rSAddK Z.P Z.w) f) (h : tI Z (mMeth 1 i f ma) σ H Q) : tSAddK Z.P Z.w (tVar i) (tIA Z ma) σ H Q := by
  obtain ⟨p, o0, Hb, h1, h2, h3, h4⟩ := meth_at hr h
  cases h3 with
  | lst a b => cases h2
  | set a => exact ⟨_, h1, ⟨p, _, _, rfl, a⟩, h4⟩
  | dic a b c => cases h2
  | dit a b => cases h2
theorem fz_known {x : PV} {d : D} (st : Sta Z B Hb H σ env) (g : Go Z B σ env Hb H env1 Hb1 H1) (rv : VR Z H Hb1 H1 σ v x) (f : fz x = some d) : ∃ Hb2, Go Z B σ env Hb H env1 Hb2 H1 ∧ Dp Z.K Hb2 v d := by
  cases rv with
  | d a => cases f; exact ⟨Hb1, g, a⟩
  | new a b1 c =>
    rename_i p o
    cases c with
    | lst y1 y2 =>
      cases f
      refine ⟨_, g.know st ⟨Ex.new b1, upd_ex g.st.sub y1, fun y w1 w2 => ?_⟩, .lst (.inl (.of upd_same)) (DpAll.ex (Ex.new b1) y2)⟩
      rw [upd_ne (fun w => w1 (by rw [w]; exact a))]
      exact w2
    | set _ => cases f
    | dic _ _ _ => cases f
    | dit _ _ => cases f
  | slot a => cases f
  | tup a t => cases f
theorem rs_setIx {f : Ob → D → D → Option Ob} {ix a : ME} {r : V → V → V → Hp → (Hp → Prop) → Prop} {D : Ends} (hr : OpS Z r f) (h : tS Z (mSetIx i f ix a) D σ H) : tAsg (tI Z a) (gSub (tVar i) (tI Z ix) r) D σ H := by
  obtain ⟨B, Hb, env, rr, st, e, q⟩ := h
  simp only [mSetIx, Option.bind_eq_some_iff] at e
  obtain ⟨⟨x, e1⟩, ha, y, h1, e⟩ := e
  refine ⟨B, Hb, env, x, e1, st, ha, fun v Hb1 H1 g1 rv => ?_⟩
  obtain ⟨Hb2, g2, hd⟩ := fz_known st g1 rv h1
  cases h2 : sget e1 i with
  | none => simp [h2] at e
  | some sv =>
    simp only [h2] at e
    cases sv with
    | d x => cases e
    | own b0 o0 =>
      simp only [Option.bind_eq_some_iff] at e
      obtain ⟨⟨k, e2⟩, hb, dk, h3, e⟩ := e
      obtain ⟨p, q1, _⟩ := g2.st.sl i _ h2
      refine ⟨_, q1, B, Hb2, e1, k, e2, g2.st, hb, fun kv Hb3 H3 g3 rk => ?_⟩
      obtain ⟨Hb4, g4, hk⟩ := fz_known g2.st g3 rk h3
      cases h4 : sget e2 i with
      | none => simp [h4] at e
      | some sv =>
        simp only [h4] at e
        cases sv with
        | d x => cases e
        | own b o =>
          simp only [Option.bind_eq_some_iff] at e
          obtain ⟨o', hf, e⟩ := e
          cases e
          obtain ⟨p', w1, w2, w3, w4⟩ := g4.st.sl i _ h4
          rw [q1] at w1
          cases w1
          have gg := g2.trans g4
          exact hr Hb4 H3 p o kv v dk y o' gg.st.sub w3 w2 hk (Dp.ex g4.ny.kb hd) hf _ fun u hw => q σ Hb4 _ (gg.put st h4 q1 hw).st gg.ny.kb
theorem rs_aug {f : RV → RV → Option PV} {a : ME} {r : R2} {D : Ends} (hr : Op2 Z r f) (h : tS Z (mAug i f a) D σ H) : tAug i (tI Z a) r D σ H := by
  obtain ⟨B, Hb, env, rr, st, e, q⟩ := h
  unfold mAug at e
  cases h0 : sget env i with
  | none => rw [h0] at e; cases e
  | some sv =>
    rw [h0] at e
    cases sv with
    | own b o => cases e
    | d x =>
      simp only [Option.bind_eq_some_iff] at e
      obtain ⟨⟨y, e1⟩, ha, t, h1, pv, h2, e2, h3, e⟩ := e
      cases e
      obtain ⟨v, q1, q2⟩ := st.sl i _ h0
      refine ⟨v, q1, B, Hb, env, y, e1, st, ha, fun w Hb1 H1 g1 rv => ?_⟩
      refine hr Hb1 H1 v w _ t pv g1.st.sub (.ofDp g1.st.sub (Dp.ex g1.ny.kb q2)) (rv.rd g1.st h1) h2 _ fun z Hb2 H2 n rz => ?_
      have g2 := g1.nx n
      have rz' := (rz.from (H0 := H) g1.ny.back)
      obtain ⟨s, _⟩ := g2.st.store (v := z) (fun y hy => by subst hy; cases rz' with | d a => exact a) (fun o ho => by
        subst ho
        cases rz' with
        | new a b c => exact ⟨_, rfl, fun w => own_some st _ (g2.ow _ w) a, b, st.h0 _ a, c⟩) h3
      exact q _ Hb2 H2 s g2.ny.kb
/-! ### the body -/
theorem outsOf_get : ∀ {svs : List SV} {e : Env} {n : Nat} {os : List (Option Ob)}, outsOf e n svs = some os → ∀ (j : Nat), (∀ b o, svs[j]? = some (.own b o) → ∃ o', sget e (n + j) = some (.own true o') ∧ os[j]? = some (some o')) ∧ ∀ x o', svs[j]? = some (.d x) → os[j]? = some (some o') → False
  | [], _, _, _, h, j => ⟨fun b o z => by simp at z, fun x o z => by simp at z⟩
  | .d y :: r, e, n, _, h, j => by
    simp only [outsOf, Option.bind_eq_some_iff] at h
    obtain ⟨os, h1, h2⟩ := h
    cases h2
    cases j with
    | zero => exact ⟨fun b o z => by simp at z, fun x o' _ z => by simp at z⟩
    | succ j =>
      have w := outsOf_get h1 j
      rw [show n + 1 + j = n + (j + 1) by omega] at w
      exact ⟨fun b o z => by simpa using w.1 b o (by simpa using z), fun x o' z z' => w.2 x o' (by simpa using z) (by simpa using z')⟩
  | .own bb oo :: r, e, n, _, h, j => by
    simp only [outsOf] at h
    cases w0 : sget e n with
    | none => simp [w0] at h
    | some sv =>
      rw [w0] at h
      cases sv with
      | d y => cases h
      | own b1 o1 =>
        cases b1 with
        | false => cases h
        | true =>
          simp only [Option.bind_eq_some_iff] at h
          obtain ⟨os, h1, h2⟩ := h
          cases h2
          cases j with
          | zero => exact ⟨fun b o z => ⟨o1, w0, rfl⟩, fun x o' z _ => by simp at z⟩
          | succ j =>
            have w := outsOf_get h1 j
            rw [show n + 1 + j = n + (j + 1) by omega] at w
            exact ⟨fun b o z => by simpa using w.1 b o (by simpa using z), fun x o' z z' => w.2 x o' (by simpa using z) (by simpa using z')⟩
theorem sget_app {l : List SV} {n i : Nat} {sv : SV} (h : sget (l.map some ++ List.replicate n none) i = some sv) : l[i]? = some sv := by
  have z : ∀ (l : List SV) (i : Nat), sget (l.map some ++ List.replicate n none) i = some sv → l[i]? = some sv := by
    intro l
    induction l with
    | nil =>
      intro i h
      have w : ∀ (n i : Nat), sget (List.replicate n none) i ≠ some sv := by
        intro n
        induction n with
        | zero => intro i h; cases h
        | succ n ih => intro i h; cases i with
          | zero => cases h
          | succ i => exact ih i h
      exact absurd h (w n i)
    | cons x r ih =>
      intro i h
      cases i with
      | zero => simpa [sget] using h
      | succ i => simpa using ih i (by simpa [sget] using h)
  exact z l i h
theorem body_at {F : Fn} {np n : Nat} {body : MS} {N : List Str} {vs : List V} {H : Hp} {Q : VK} {E : XK} (hF : F = runFn np n body) (hN : N.length = np + n) (h : spI Z F vs H Q E) :
    tS Z body { nx := fun _ H' => Q .non H', rt := Q } (L2.start N vs) H := by
  subst hF
  obtain ⟨Hb, svs, r, outs, hl, st, hF, q⟩ := h
  unfold runFn at hF
  split at hF
  · rename_i hnp
    simp only [Option.bind_eq_some_iff] at hF
    obtain ⟨rs, hb, hF⟩ := hF
    have hv : ∀ (j : Nat) (v : V), (vs.map some)[j]? = some (some v) → (L2.start N vs)[j]? = some (some v) := fun j v e => by
      have z : j < (vs.map some).length := (List.getElem?_eq_some_iff.mp e).1
      unfold L2.start
      rw [List.getElem?_append_left z]
      exact e
    have st' : Sta Z ⟨Hb, H, Pw svs vs⟩ Hb H (L2.start N vs) (svs.map some ++ List.replicate n none) := by
      refine ⟨st.ny, fun i sv e => ?_, fun i j p b o b' o' h1 h2 h3 h4 => ?_, ?_⟩
      · have w := st.sl i sv (by rw [sget_map]; exact sget_app e)
        cases sv with
        | d x => obtain ⟨v, w1, w2⟩ := w; exact ⟨v, hv i v w1, w2⟩
        | own b o => obtain ⟨p, w1, w2⟩ := w; exact ⟨p, hv i _ w1, w2⟩
      · have a1 := sget_app h1
        have a2 := sget_app h2
        obtain ⟨p1, w1, _⟩ := st.sl i (.own b o) (by rw [sget_map]; exact a1)
        obtain ⟨p2, w2, _⟩ := st.sl j (.own b' o') (by rw [sget_map]; exact a2)
        rw [hv i _ w1] at h3
        rw [hv j _ w2] at h4
        cases h3
        cases h4
        exact st.df i j p _ _ _ _ (by rw [sget_map]; exact a1) (by rw [sget_map]; exact a2) w1 w2
      · unfold L2.start
        simp only [List.length_append, List.length_map, List.length_replicate]
        omega
    -- the end
    have fin : ∀ {v : V} {σ : L2.St} {Hb' H' : Hp} {e : Env}, Sta Z ⟨Hb, H, Pw svs vs⟩ Hb' H' σ e → outsOf e 0 svs = some outs → VR Z H Hb' H' [] v r → Q v H' := fun {v σ Hb' H' e} s ho rv => by
      refine q v Hb' H' s.ny ⟨fun j b o hj => ?_, fun j x o' h1 h2 => (outsOf_get ho j).2 x o' h1 h2⟩ rv
      obtain ⟨o', h1, h2⟩ := (outsOf_get ho j).1 b o hj
      rw [Nat.zero_add] at h1
      obtain ⟨p, w1, w2, w3, w4, _⟩ := s.sl j _ h1
      obtain ⟨b3, o3, y1, y2⟩ := w4 rfl
      refine ⟨p, o', ?_, h2, w2, w3⟩
      rw [List.getElem?_map] at y2
      cases z : vs[j]? with
      | none => rw [z] at y2; cases y2
      | some u => rw [z] at y2; simpa using y2
    refine ⟨⟨Hb, H, Pw svs vs⟩, Hb, _, rs, st', hb, ?_⟩
    cases rs with
    | nx e =>
      simp only [Option.bind_eq_some_iff] at hF
      obtain ⟨os, ho, hF⟩ := hF
      cases hF
      exact fun σ Hb' H' s _ => fin s ho (.d .non)
    | ret v e =>
      simp only [Option.bind_eq_some_iff] at hF
      obtain ⟨os, ho, hF⟩ := hF
      cases hF
      exact fun v σ Hb' H' s _ rv => fin s ho rv
    | bk e => cases hF
    | ct e => cases hF
  · cases hF
end
end Ol
set_option Elab.async false
set_option linter.all false
set_option maxRecDepth 100000
set_option maxHeartbeats 4000000
/-! own: what the operators and the built-ins compute on data -/
namespace Ol
open PySem PySem.Spec PyProof.Rows L2
open PySem.W (AlikeAll dataLt minD maxD min_tuple_data max_tuple_data)
section
variable {X : Cx}
/-- list + list, of any source -/
def rCatL (K : Fg) : R2 := fun x y H Q => ∃ l b xs zs, x = .ref l ∧ y = .ref b ∧ SqL K H l xs ∧ SqL K H b zs ∧ xs.length + zs.length ≤ sizeLine ∧ ∀ p, H p = none → Q (.ref p) (upd H p (.lst (xs ++ zs)))
theorem op_catL : OpR X (binaryOp .Add) (rCatL X.K) := by
  intro pins s σ H x y v u Q I rx ry h
  obtain ⟨l, b, xs, zs, rfl, rfl, hH, hB, hz, q⟩ := h
  cases rx
  cases ry
  obtain ⟨its, r, p, _⟩ := I.list hH
  obtain ⟨its2, r2, p2, _⟩ := I.list hB
  obtain ⟨⟨cls, dd, data, sl⟩, ho, hc, n, hd⟩ := p.isList
  obtain ⟨⟨cls2, dd2, data2, sl2⟩, ho2, hc2, n2, hd2⟩ := p2.isList
  simp only at hc hd hc2 hd2
  subst hc hd hc2 hd2
  have e : its.toArray ++ its2.toArray = (its ++ its2).toArray := by simp
  have hl := r.length
  have hl2 := r2.length
  refine concat_meets ⟨_, ho, rfl⟩ ⟨_, ho2, rfl⟩ noFill_list_add seq_list_add PySem.F.slot_list_add PySem.F.entry_list_add (PySem.F.args_list_add_2 _ _) (list_addW l b its.toArray its2.toArray n n2 dd dd2 sl sl2 (by simp only [List.size_toArray]; omega)) ⟨ho, ho2, ?_⟩
  rw [e]
  exact ⟨.ref _, _, I.lnew (t' := s.toks) (r.append r2) (by rw [List.length_append]; omega), rfl, q _ I.fresh⟩
/-- min, max of a tuple of ints -/
def rMinT (K : Fg) : List V → Hp → VK → Prop := fun vs H Q => ∃ (a : Addr) (x : Int) (ns : List Int), vs = [V.ref a] ∧ SqT K H a ((x :: ns).map V.int) ∧ ∀ m, m ∈ x :: ns → (∀ y, y ∈ x :: ns → m ≤ y) → Q (.int m) H
def rMaxT (K : Fg) : List V → Hp → VK → Prop := fun vs H Q => ∃ (a : Addr) (x : Int) (ns : List Int), vs = [V.ref a] ∧ SqT K H a ((x :: ns).map V.int) ∧ ∀ m, m ∈ x :: ns → (∀ y, y ∈ x :: ns → y ≤ m) → Q (.int m) H
theorem alike_ints (ns : List Int) : AlikeAll (ns.map PyData.int) := by
  refine ⟨fun x hx y hy => ?_, fun x hx => ?_⟩
  · obtain ⟨i, _, rfl⟩ := List.mem_map.mp hx
    obtain ⟨j, _, rfl⟩ := List.mem_map.mp hy
    rfl
  · obtain ⟨i, _, rfl⟩ := List.mem_map.mp hx
    simp
theorem depth_ints : ∀ ns : List Int, PyData.depthAll (ns.map PyData.int) = 0
  | [] => rfl
  | n :: r => by simp [PyData.depthAll, PyData.depth, depth_ints r]
theorem dataLt_int (i j : Int) : dataLt (.int i) (.int j) = decide (i < j) := by
  show PyProof.Rows.lexLt itemOrd [.inl i] [.inl j] = decide (i < j)
  have e : PyProof.Rows.lexLt itemOrd [.inl i] [.inl j] = (decide (i < j) || (!decide (j < i) && false)) := rfl
  rw [e, Bool.and_false, Bool.or_false]
theorem minD_ints : ∀ (ns : List Int) (x : Int), ∃ m, minD (.int x) (ns.map .int) = .int m ∧ m ∈ x :: ns ∧ ∀ y ∈ x :: ns, m ≤ y
  | [], x => ⟨x, rfl, by simp, by simp⟩
  | n :: r, x => by
    have e : minD (.int x) ((n :: r).map .int) = minD (.int (if n < x then n else x)) (r.map .int) := by
      show List.foldl _ _ _ = List.foldl _ _ _
      rw [List.map_cons, List.foldl_cons, dataLt_int]
      by_cases h : n < x <;> simp [h, minD]
    obtain ⟨m, h1, h2, h3⟩ := minD_ints r (if n < x then n else x)
    refine ⟨m, e.trans h1, ?_, fun y hy => ?_⟩
    · rcases List.mem_cons.mp h2 with z | z
      · rw [z]; split <;> simp
      · simp [z]
    · have h4 := h3 (if n < x then n else x) List.mem_cons_self
      rcases List.mem_cons.mp hy with z | z
      · subst z; split at h4 <;> omega
      · rcases List.mem_cons.mp z with z | z
        · subst z; split at h4 <;> omega
        · exact h3 y (List.mem_cons_of_mem _ z)
theorem maxD_ints : ∀ (ns : List Int) (x : Int), ∃ m, maxD (.int x) (ns.map .int) = .int m ∧ m ∈ x :: ns ∧ ∀ y ∈ x :: ns, y ≤ m
  | [], x => ⟨x, rfl, by simp, by simp⟩
  | n :: r, x => by
    have e : maxD (.int x) ((n :: r).map .int) = maxD (.int (if x < n then n else x)) (r.map .int) := by
      show List.foldl _ _ _ = List.foldl _ _ _
      rw [List.map_cons, List.foldl_cons, dataLt_int]
      by_cases h : x < n <;> simp [h, maxD]
    obtain ⟨m, h1, h2, h3⟩ := maxD_ints r (if x < n then n else x)
    refine ⟨m, e.trans h1, ?_, fun y hy => ?_⟩
    · rcases List.mem_cons.mp h2 with z | z
      · rw [z]; split <;> simp
      · simp [z]
    · have h4 := h3 (if x < n then n else x) List.mem_cons_self
      rcases List.mem_cons.mp hy with z | z
      · subst z; split at h4 <;> omega
      · rcases List.mem_cons.mp z with z | z
        · subst z; split at h4 <;> omega
        · exact h3 y (List.mem_cons_of_mem _ z)
theorem cr_minT (hc : X.calm = true) (hu : X.A.units + 64 < cLine) : CallR X (.builtin "min") (rMinT X.K) := by
  intro pins s σ H vs us Q I r h
  obtain ⟨a, x, ns, rfl, hs, q⟩ := h
  obtain ⟨its, rv, hl, _⟩ := I.tuple hs
  rw [Vals.ref1 r]
  obtain ⟨as, ra⟩ := L2.Dp.readsAll I ((x :: ns).map PyData.int) _ its (DpAll.toL (DpAll.ints (K := X.K) (H := H) (x :: ns))) rv
  refine min_tuple_data (I.ok.hd hc) hl (by simpa using ra) (alike_ints (x :: ns)) (by have z := depth_ints (x :: ns); rw [List.map_cons] at z; rw [z]; omega) fun i v h' tk bs _ hr hk => ?_
  obtain ⟨m, h1, h2, h3⟩ := minD_ints ns x
  rw [h1] at hr
  cases hr
  exact ⟨.int m, H, I.kept hk, ⟨_, rfl⟩, q m h2 h3⟩
theorem cr_maxT (hc : X.calm = true) (hu : X.A.units + 64 < cLine) : CallR X (.builtin "max") (rMaxT X.K) := by
  intro pins s σ H vs us Q I r h
  obtain ⟨a, x, ns, rfl, hs, q⟩ := h
  obtain ⟨its, rv, hl, _⟩ := I.tuple hs
  rw [Vals.ref1 r]
  obtain ⟨as, ra⟩ := L2.Dp.readsAll I ((x :: ns).map PyData.int) _ its (DpAll.toL (DpAll.ints (K := X.K) (H := H) (x :: ns))) rv
  refine max_tuple_data (I.ok.hd hc) hl (by simpa using ra) (alike_ints (x :: ns)) (by have z := depth_ints (x :: ns); rw [List.map_cons] at z; rw [z]; omega) fun i v h' tk bs _ hr hk => ?_
  obtain ⟨m, h1, h2, h3⟩ := maxD_ints ns x
  rw [h1] at hr
  cases hr
  exact ⟨.int m, H, I.kept hk, ⟨_, rfl⟩, q m h2 h3⟩
/-- key in dict -/
def rDinK (neg : Bool) : R2 := fun x y H Q => ∃ (a : Addr) (o : Option V), y = .ref a ∧ DGet H a x o ∧ Q (.bl (if neg then !o.isSome else o.isSome)) H
theorem or_dinK (hu : X.A.units + 64 < cLine) : OpR X (compareOp .In) (rDinK false) := by
  intro pins s σ H x y v u Q I rx ry h
  obtain ⟨a, o, rfl, g, q⟩ := h
  cases ry
  exact d_in (by omega) I g rx fun s3 I3 => ⟨.bl o.isSome, H, I3, rfl, q⟩
theorem or_dnotinK (hu : X.A.units + 64 < cLine) : OpR X (compareOp .NotIn) (rDinK true) := by
  intro pins s σ H x y v u Q I rx ry h
  obtain ⟨a, o, rfl, g, q⟩ := h
  cases ry
  exact d_notIn (by omega) I g rx fun s3 I3 => ⟨.bl (!o.isSome), H, I3, rfl, q⟩
end
/-! ### texts in order -/
def leS (a b : Str) : Bool := !ltCps b.cps.toList a.cps.toList
def sortS (zs : List Str) : List Str := zs.mergeSort leS
theorem leS_iff {a b : Str} : leS a b = true ↔ a.cps.toList ≤ b.cps.toList := by
  unfold leS
  rw [ltCps_eq]
  simp
theorem leS_trans (a b c : Str) (h1 : leS a b = true) (h2 : leS b c = true) : leS a c = true := leS_iff.mpr (List.le_trans (leS_iff.mp h1) (leS_iff.mp h2))
theorem leS_total (a b : Str) : (leS a b || leS b a) = true := by
  rw [Bool.or_eq_true, leS_iff, leS_iff]
  exact List.le_total _ _
theorem leS_anti {a b : Str} (h1 : leS a b = true) (h2 : leS b a = true) : a = b := by
  have z := List.le_antisymm (leS_iff.mp h1) (leS_iff.mp h2)
  obtain ⟨⟨a⟩⟩ := a
  obtain ⟨⟨b⟩⟩ := b
  simp at z
  rw [z]
theorem rising_pair : ∀ {l : List Str} {p : Str}, risingS p l = true → (p :: l).Pairwise fun a b => leS a b = true
  | [], p, _ => by simp
  | x :: r, p, h => by
    have h' : (leS p x && risingS x r) = true := h
    rw [Bool.and_eq_true] at h'
    have ih := rising_pair h'.2
    refine List.pairwise_cons.mpr ⟨fun b hb => ?_, ih⟩
    rcases List.mem_cons.mp hb with z | z
    · rw [z]; exact h'.1
    · exact leS_trans _ _ _ h'.1 (List.rel_of_pairwise_cons ih z)
theorem sortS_of {ys zs : List Str} (h1 : ys.Perm zs) (h2 : sortedS ys = true) : ys = sortS zs := by
  have hp : ys.Pairwise fun a b => leS a b = true := by
    cases ys with
    | nil => simp
    | cons x r => exact rising_pair h2
  have hq := List.pairwise_mergeSort (le := leS) leS_trans leS_total zs
  exact List.Perm.eq_of_pairwise (le := fun a b => leS a b = true) (fun a b _ _ => leS_anti) hp hq (h1.trans (List.mergeSort_perm zs leS).symm)
end Ol
set_option Elab.async false
set_option linter.all false
set_option maxRecDepth 100000
set_option maxHeartbeats 4000000
/-! own: what the operators and the built-ins compute on data, as functions -/
namespace Ol
open PySem PySem.Spec PyProof.Rows L2
section
variable {Z : Zn} {Hb H : Hp}
abbrev iD (i : Int) : PV := .d (.int i)
abbrev bD (b : Bool) : PV := .d (.bool b)
theorem vrI {H0 : Hp} {σ : L2.St} (i : Int) : VR Z H0 Hb H σ (.int i) (iD i) := .d (.int i)
theorem vrB {H0 : Hp} {σ : L2.St} (b : Bool) : VR Z H0 Hb H σ (.bl b) (bD b) := .d (.bl b)
@[simp] def oAdd : RV → RV → Option PV
  | .d (.int i), .d (.int j) => some (iD (i + j))
  | .d (.str a), .d (.str b) => if a.length + b.length ≤ 100000 then some (.d (.str (a ++ b))) else none
  | .d (.tuple xs), .d (.tuple ys) => if xs.length + ys.length ≤ 100000 then some (.d (.tuple (xs ++ ys))) else none
  | .d (.list xs), .d (.list ys) => if xs.length + ys.length ≤ 100000 then some (.new (.lst (xs ++ ys))) else none
  | _, _ => none
def rAddU (K : Fg) : R2 := fun x y H Q => rI0 (fun i j => .int (i + j)) x y H Q ∨ (∃ i j, x = .str i ∧ y = .str j ∧ i.length + j.length ≤ sizeLine ∧ Q (.str (i ++ j)) H) ∨ rCatN K x y H Q ∨ rCatL K x y H Q
theorem op_addU {X : Cx} : OpR X (binaryOp .Add) (rAddU X.K) := Ol.OpR.or op_add (Ol.OpR.or op_add_str (Ol.OpR.or op_catN op_catL))
theorem lineLe {n : Nat} (h : n ≤ 100000) : n ≤ sizeLine := Nat.le_trans h (by decide)
theorem s_add : Op2 Z (rAddU Z.K) oAdd := by
  intro Hb H x y dx dy pv e rx ry h Q q
  cases rx with
  | int i => cases ry with
    | int j => cases h; exact .inl ⟨i, j, rfl, rfl, q _ _ _ (.refl e) (vrI _)⟩
    | _ => cases h
  | str a => cases ry with
    | str b =>
      simp only [oAdd] at h
      split at h
      · rename_i hl
        cases h; exact .inr (.inl ⟨a, b, rfl, rfl, lineLe hl, q _ _ _ (.refl e) (.d (.str _))⟩)
      · cases h
    | _ => cases h
  | tup s1 t1 k1 => cases ry with
    | tup s2 t2 k2 =>
      rename_i p xs ds p2 xs2 ds2
      simp only [oAdd] at h
      split at h
      · rename_i hl
        cases h
        have l1 := DpAll.length t1
        have l2 := DpAll.length t2
        refine .inr (.inr (.inl ⟨_, _, xs, xs2, rfl, rfl, sqt_ex e s1, sqt_ex e s2, lineLe (by omega), fun z => ?_, fun _ z => ?_, fun _ _ p ob hp hob => ?_⟩))
        · subst z
          cases t1
          exact q _ _ _ (.refl e) (.d (.tup s2 t2 k2))
        · subst z
          cases t2
          rw [List.append_nil] at q
          exact q _ _ _ (.refl e) (.d (.tup s1 t1 (by simpa using k1)))
        · exact q _ _ _ (Nx.new e hp) (.d (.tup sqt_new (DpAll.ex (Ex.new (e.free hp)) (DpAll.append t1 t2)) fun _ => NoD.of hob))
      · cases h
    | _ => cases h
  | lst s1 t1 => cases ry with
    | lst s2 t2 =>
      simp only [oAdd] at h
      split at h
      · rename_i hl
        cases h
        have l1 := DpAll.length t1
        have l2 := DpAll.length t2
        exact .inr (.inr (.inr ⟨_, _, _, _, rfl, rfl, s1, s2, lineLe (by omega), fun p hp => q _ _ _ (Nx.newOwn e hp) (.new hp (e.free hp) (.lst upd_same (DpAll.append t1 t2)))⟩))
      · cases h
    | _ => cases h
  | _ => cases h
@[simp] def oII (f : Int → Int → Option PV) : RV → RV → Option PV
  | .d (.int i), .d (.int j) => f i j
  | _, _ => none
theorem s_ii {f : Int → Int → Option PV} {C : Int → Int → Prop} {g : Int → Int → Int} (hf : ∀ i j p, f i j = some p → C i j ∧ p = iD (g i j)) : Op2 Z (rI C fun i j => .int (g i j)) (oII f) := by
  intro Hb H x y dx dy pv e rx ry h Q q
  cases rx with
  | int i => cases ry with
    | int j =>
      obtain ⟨h1, rfl⟩ := hf i j pv h
      exact ⟨i, j, rfl, rfl, h1, q _ _ _ (.refl e) (vrI _)⟩
    | _ => cases h
  | _ => cases h
theorem s_ii0 {g : Int → Int → Int} : Op2 Z (rI0 fun i j => .int (g i j)) (oII fun i j => some (iD (g i j))) := by
  intro Hb H x y dx dy pv e rx ry h Q q
  cases rx with
  | int i => cases ry with
    | int j => cases h; exact ⟨i, j, rfl, rfl, q _ _ _ (.refl e) (vrI _)⟩
    | _ => cases h
  | _ => cases h
theorem s_ib {g : Int → Int → Bool} : Op2 Z (rI0 fun i j => .bl (g i j)) (oII fun i j => some (bD (g i j))) := by
  intro Hb H x y dx dy pv e rx ry h Q q
  cases rx with
  | int i => cases ry with
    | int j => cases h; exact ⟨i, j, rfl, rfl, q _ _ _ (.refl e) (vrB _)⟩
    | _ => cases h
  | _ => cases h
@[simp] def oSub := oII fun i j => some (iD (i - j))
@[simp] def oLt := oII fun i j => some (bD (decide (i < j)))
@[simp] def oLe := oII fun i j => some (bD (decide (i ≤ j)))
@[simp] def oGt := oII fun i j => some (bD (decide (j < i)))
@[simp] def oGe := oII fun i j => some (bD (decide (j ≤ i)))
instance {i j : Int} : Decidable (CMulW i j) := by unfold CMulW; infer_instance
instance {i j : Int} : Decidable (CDiv i j) := by unfold CDiv; infer_instance
instance {i j : Int} : Decidable (CPowW i j) := by unfold CPowW; infer_instance
@[simp] def oMul := oII fun i j => if CMulW i j then some (iD (i * j)) else none
@[simp] def oDiv := oII fun i j => if CDiv i j then some (iD (i / j)) else none
@[simp] def oMod := oII fun i j => if 0 < j then some (iD (i % j)) else none
@[simp] def oPow := oII fun i j => if CPowW i j then some (iD (i ^ j.toNat)) else none
theorem s_sub : Op2 Z (rI0 fun i j => .int (i - j)) oSub := s_ii0
theorem s_lt : Op2 Z (rI0 fun i j => .bl (decide (i < j))) oLt := s_ib
theorem s_le : Op2 Z (rI0 fun i j => .bl (decide (i ≤ j))) oLe := s_ib
theorem s_gt : Op2 Z (rI0 fun i j => .bl (decide (j < i))) oGt := s_ib
theorem s_ge : Op2 Z (rI0 fun i j => .bl (decide (j ≤ i))) oGe := s_ib
theorem s_mul : Op2 Z (rI CMulW fun i j => .int (i * j)) oMul := s_ii fun i j p h => by
  split at h
  · rename_i c; cases h; exact ⟨c, rfl⟩
  · cases h
theorem s_div : Op2 Z (rI CDiv fun i j => .int (i / j)) oDiv := s_ii fun i j p h => by
  split at h
  · rename_i c; cases h; exact ⟨c, rfl⟩
  · cases h
theorem s_mod : Op2 Z (rI (fun _ j => 0 < j) fun i j => .int (i % j)) oMod := s_ii fun i j p h => by
  split at h
  · rename_i c; cases h; exact ⟨c, rfl⟩
  · cases h
theorem s_pow : Op2 Z (rI CPowW fun i j => .int (i ^ j.toNat)) oPow := s_ii fun i j p h => by
  split at h
  · rename_i c; cases h; exact ⟨c, rfl⟩
  · cases h
@[simp] def oEq : RV → RV → Option PV
  | .d x, .d y => if SeqAt.shaped x = true ∧ SeqAt.shaped y = true then some (bD (PyData.eqv x y)) else none
  | _, _ => none
@[simp] def oNe : RV → RV → Option PV
  | .d x, .d y => if SeqAt.shaped x = true ∧ SeqAt.shaped y = true then some (bD (!PyData.eqv x y)) else none
  | _, _ => none
theorem RdR.some_d {x : V} {r : RV} (h : RdR Z Hb H x r) {d : D} (e : r = .d d) (ex : Ex Hb H) : Dp Z.K H x d := by subst e; exact h.dp ex
theorem s_eq : Op2 Z (rEqD Z.K) oEq := by
  intro Hb H x y dx dy pv e rx ry h Q q
  unfold oEq at h
  split at h
  · split at h
    · rename_i c
      cases h
      exact ⟨_, _, (rx.dp e).toL, (ry.dp e).toL, c.1, c.2, q _ _ _ (.refl e) (vrB _)⟩
    · cases h
  · cases h
theorem s_ne : Op2 Z (rNeD Z.K) oNe := by
  intro Hb H x y dx dy pv e rx ry h Q q
  unfold oNe at h
  split at h
  · split at h
    · rename_i c
      cases h
      exact ⟨_, _, (rx.dp e).toL, (ry.dp e).toL, c.1, c.2, q _ _ _ (.refl e) (vrB _)⟩
    · cases h
  · cases h
/-- is None -/
@[simp] def isNon : RV → Bool
  | .d .none => true
  | _ => false
@[simp] def oIsN : RV → RV → Option PV
  | r, .d .none => some (bD (isNon r))
  | _, _ => none
@[simp] def oNotN : RV → RV → Option PV
  | r, .d .none => some (bD !(isNon r))
  | _, _ => none
theorem isNon_v {x : V} {r : RV} (h : RdR Z Hb H x r) : decide (x = .non) = isNon r := by
  cases h <;> simp [isNon]
theorem s_isN : Op2 Z (fun x y H Q => y = .non ∧ Q (.bl (decide (x = .non))) H) oIsN := by
  intro Hb H x y dx dy pv e rx ry h Q q
  unfold oIsN at h
  split at h
  · cases ry; cases h; refine ⟨rfl, ?_⟩; rw [isNon_v rx]; exact q _ _ _ (.refl e) (vrB _)
  · cases h
theorem s_notN : Op2 Z (fun x y H Q => y = .non ∧ Q (.bl (!decide (x = .non))) H) oNotN := by
  intro Hb H x y dx dy pv e rx ry h Q q
  unfold oNotN at h
  split at h
  · cases ry; cases h; refine ⟨rfl, ?_⟩; rw [isNon_v rx]; exact q _ _ _ (.refl e) (vrB _)
  · cases h
/-! in -/
def flatD : D → Bool
  | .none => true
  | .bool _ => true
  | .int _ => true
  | .str _ => true
  | _ => false
def tv : D → V
  | .none => .non
  | .bool b => .bl b
  | .int i => .int i
  | .str x => .str x
  | _ => .non
theorem tv_of {K : Fg} {d : D} {v : V} (h : Dp K H v d) (f : flatD d = true) : v = tv d ∧ flatV v = true := by
  cases h <;> first | exact ⟨rfl, rfl⟩ | cases f
theorem tvs_of {K : Fg} : ∀ {ds : List D} {vs : List V}, DpAll K H vs ds → ds.all flatD = true → vs = ds.map tv ∧ vs.all flatV = true
  | [], _, h, _ => by cases h; exact ⟨rfl, rfl⟩
  | d :: ds, _, h, f => by
    rw [List.all_cons, Bool.and_eq_true] at f
    cases h with
    | cons a b =>
      obtain ⟨h1, h2⟩ := tv_of a f.1
      obtain ⟨h3, h4⟩ := tvs_of b f.2
      exact ⟨by rw [h1, h3]; rfl, by rw [List.all_cons, h2, h4]; rfl⟩
def keyOf : D → Option Key
  | .int i => some (.inl i)
  | .str x => some (.inr x)
  | _ => none
theorem keyOf_v {K : Fg} {d : D} {v : V} {k : Key} (h : Dp K H v d) (e : keyOf d = some k) : v = kV k := by
  cases h <;> first | (cases e; rfl) | cases e
def hasK (kvs : List (Key × D)) (k : Key) : Bool := kvs.any fun kv => decide (kv.1 = k)
theorem hasK_v {us : List (Key × V)} {kvs : List (Key × D)} {k : Key} (h : us.map (·.1) = kvs.map (·.1)) : (valV us k).isSome = hasK kvs k := by
  induction us generalizing kvs with
  | nil => cases kvs with
    | nil => rfl
    | cons _ _ => cases h
  | cons u us ih =>
    cases kvs with
    | nil => cases h
    | cons w kvs =>
      simp only [List.map_cons, List.cons.injEq] at h
      by_cases e : u.1 = k
      · rw [valV_pos e]
        simp [hasK, ← h.1, e]
      · rw [valV_neg e, ih h.2]
        simp [hasK, ← h.1, e]
def oIn (neg : Bool) : RV → RV → Option PV
  | .d x, .d (.list ds) => if flatD x = true ∧ ds.all flatD = true then some (bD (neg ^^ inV (tv x) (ds.map tv))) else none
  | .d x, .d (.tuple ds) => if flatD x = true ∧ ds.all flatD = true then some (bD (neg ^^ inV (tv x) (ds.map tv))) else none
  | .d x, .s ks => (keyOf x).bind fun k => some (bD (neg ^^ memb ks k))
  | .d x, .m kvs => (keyOf x).bind fun k => some (bD (neg ^^ hasK kvs k))
  | .d (.str a), .d (.str b) => some (bD (neg ^^ !(Builtin.Str.occurrences b a 0 b.length 1).isEmpty))
  | _, _ => none
def rStrIn (neg : Bool) : R2 := fun x y H Q => ∃ i j, x = .str i ∧ y = .str j ∧ Q (.bl (neg ^^ !(Builtin.Str.occurrences j i 0 j.length 1).isEmpty)) H
def rInU (Z : Zn) (neg : Bool) : R2 := fun x y H Q => rIn Z.K neg x y H Q ∨ rSInK Z.P Z.w neg x y H Q ∨ rDinK neg x y H Q ∨ rStrIn neg x y H Q
theorem op_inU {X : Cx} (hu : X.A.units + 64 < cLine) : OpR X (compareOp .In) (rInU (zn X) false) := Ol.OpR.or op_in_seq (Ol.OpR.or or_sinK (Ol.OpR.or (or_dinK hu) (by
  intro pins s σ H x y v u Q I rx ry h
  obtain ⟨i, j, h1, h2, q⟩ := h
  rw [Bool.false_xor] at q
  exact op_in_str pins s σ H x y v u Q I rx ry ⟨i, j, h1, h2, q⟩)))
theorem op_notInU {X : Cx} (hu : X.A.units + 64 < cLine) : OpR X (compareOp .NotIn) (rInU (zn X) true) := Ol.OpR.or op_notIn_seq (Ol.OpR.or or_snotinK (Ol.OpR.or (or_dnotinK hu) (by
  intro pins s σ H x y v u Q I rx ry h
  obtain ⟨i, j, h1, h2, q⟩ := h
  rw [Bool.true_xor] at q
  exact op_notIn_str pins s σ H x y v u Q I rx ry ⟨i, j, h1, h2, q⟩)))
theorem xor_if (neg b : Bool) : (neg ^^ b) = if neg then !b else b := by cases neg <;> cases b <;> rfl
theorem s_in (neg : Bool) : Op2 Z (rInU Z neg) (oIn neg) := by
  intro Hb H x y dx dy pv e rx ry h Q q
  unfold oIn at h
  split at h
  · rename_i x1 ds
    cases ry with
    | lst s t =>
      split at h
      · rename_i c
        cases h
        obtain ⟨h1, h2⟩ := tv_of (rx.dp e) c.1
        obtain ⟨h3, h4⟩ := tvs_of t c.2
        refine .inl ⟨_, _, rfl, .inl s, h2, h4, ?_⟩
        rw [h1, h3, ← xor_if]
        exact q _ _ _ (.refl e) (vrB _)
      · cases h
  · cases ry with
    | tup s t _ =>
      split at h
      · rename_i c
        cases h
        obtain ⟨h1, h2⟩ := tv_of (rx.dp e) c.1
        obtain ⟨h3, h4⟩ := tvs_of t c.2
        refine .inl ⟨_, _, rfl, .inr (sqt_ex e s), h2, h4, ?_⟩
        rw [h1, h3, ← xor_if]
        exact q _ _ _ (.refl e) (vrB _)
      · cases h
  · cases ry with
    | s w =>
      simp only [Option.bind_eq_some_iff] at h
      obtain ⟨k, h1, h2⟩ := h
      cases h2
      cases w with
      | set w =>
        refine .inr (.inl ⟨k, _, _, _, keyOf_v (rx.dp e) h1, rfl, w, ?_⟩)
        rw [← xor_if]
        exact q _ _ _ (.refl e) (vrB _)
  · cases ry with
    | m w =>
      simp only [Option.bind_eq_some_iff] at h
      obtain ⟨k, h1, h2⟩ := h
      cases h2
      cases w with
      | dic w1 w2 w3 =>
        rename_i us
        refine .inr (.inr (.inl ⟨_, valV us k, rfl, ?_, ?_⟩))
        · rw [keyOf_v (rx.dp e) h1]; exact .k w1
        · rw [hasK_v w2, ← xor_if]
          exact q _ _ _ (.refl e) (vrB _)
  · cases rx with
    | str a => cases ry with
      | str b => cases h; exact .inr (.inr (.inr ⟨_, _, rfl, rfl, q _ _ _ (.refl e) (vrB _)⟩))
  · cases h
/-! items -/
def oIx : RV → RV → Option PV
  | .d (.list ds), .d (.int i) => (atI ds i).bind fun d => some (.d d)
  | .d (.tuple ds), .d (.int i) => (atI ds i).bind fun d => some (.d d)
  | .d (.str z), .d (.int i) => if z.length ≤ 100000 then (atI z.cps.toList i).bind fun c => some (.d (.str ⟨#[c]⟩)) else none
  | _, _ => none
theorem at_of {K : Fg} {ds : List D} {vs : List V} {i : Int} {d : D} (h : DpAll K H vs ds) (e : atI ds i = some d) : ∃ v, atI vs i = some v ∧ Dp K H v d := by
  unfold atI at e ⊢
  rw [DpAll.length h]
  cases z : ixN ds.length i with
  | none => rw [z] at e; cases e
  | some j =>
    rw [z] at e
    exact DpAll.get h e
theorem s_ix : Op2 Z (rIx Z.K) oIx := by
  intro Hb H x y dx dy pv e rx ry h Q q
  cases ry with
  | int i => cases rx with
    | lst s t =>
      simp only [oIx, Option.bind_eq_some_iff] at h
      obtain ⟨d, h1, h2⟩ := h
      cases h2
      obtain ⟨v, h3, h4⟩ := at_of t h1
      exact .inl ⟨_, _, i, v, rfl, rfl, s, h3, q _ _ _ (.refl e) (.d h4)⟩
    | tup s t _ =>
      simp only [oIx, Option.bind_eq_some_iff] at h
      obtain ⟨d, h1, h2⟩ := h
      cases h2
      obtain ⟨v, h3, h4⟩ := at_of t h1
      exact .inr (.inl ⟨_, _, i, v, rfl, rfl, sqt_ex e s, h3, q _ _ _ (.refl e) (.d h4)⟩)
    | str z =>
      simp only [oIx] at h
      split at h
      · rename_i hl
        simp only [Option.bind_eq_some_iff] at h
        obtain ⟨c, h1, h2⟩ := h
        cases h2
        exact .inr (.inr ⟨z, i, c, rfl, rfl, lineLe hl, h1, q _ _ _ (.refl e) (.d (.str _))⟩)
      · cases h
    | _ => cases h
  | _ => cases rx <;> cases h
@[simp] def oNeg : RV → Option PV
  | .d (.int i) => some (iD (-i))
  | _ => none
theorem s_neg : Op1 Z (rU fun i => .int (-i)) oNeg := by
  intro Hb H x dx pv e rx h Q q
  cases rx with
  | int i => cases h; exact ⟨i, rfl, q _ _ _ (.refl e) (vrI _)⟩
  | _ => cases h
/-! slices -/
abbrev MO := Env → Option (Option Int × Env)
def tIO (Z : Zn) (m : MO) : TO := fun σ H Q => ∃ B Hb env o env', Sta Z B Hb H σ env ∧ m env = some (o, env') ∧ ∀ Hb' H', Go Z B σ env Hb H env' Hb' H' → Q o H'
@[simp] def mNoP : MO := fun env => some (none, env)
@[simp] def mP (a : ME) : MO := fun env => (a env).bind fun x => match x.1 with
  | .d (.int i) => some (some i, x.2)
  | _ => none
def cutD (ds : List D) (lo hi : Option Int) : List D := (ds.drop (HT.sIx ds.length 0 lo)).take (HT.sIx ds.length ds.length hi - HT.sIx ds.length 0 lo)
@[simp] def oSl (lo hi : Option Int) : RV → Option PV
  | .d (.list ds) => some (.new (.lst (cutD ds lo hi)))
  | .d (.tuple ds) => some (.d (.tuple (cutD ds lo hi)))
  | _ => none
@[simp] def mSl (a : ME) (l h : MO) : ME := fun env => (a env).bind fun x => (l x.2).bind fun lo => (h lo.2).bind fun hi => (rd hi.2 x.1).bind fun r => (oSl lo.1 hi.1 r).bind fun p => some (p, hi.2)
def rSlU (K : Fg) : V → Option Int → Option Int → Hp → VK → Prop := fun x lo hi H Q => rSlN K x lo hi H Q ∨ rSlL K x lo hi H Q
theorem sl_U {X : Cx} : SlR X (rSlU X.K) := SlR.or sl_tupN sl_list
variable {σ : L2.St}
theorem re_noP {Q : Option Int → Hp → Prop} (h : tIO Z mNoP σ H Q) : tNoPart σ H Q := by
  obtain ⟨B, Hb, env, pv, env', st, e, q⟩ := h
  cases e
  exact q Hb H (.refl st)
theorem re_P {a : ME} {Q : Option Int → Hp → Prop} (h : tIO Z (mP a) σ H Q) : tPart (tI Z a) σ H Q := by
  obtain ⟨B, Hb, env, pv, env', st, e, q⟩ := h
  simp only [mP, Option.bind_eq_some_iff] at e
  obtain ⟨⟨x, e1⟩, ha, e⟩ := e
  refine ⟨B, Hb, env, x, e1, st, ha, fun v Hb1 H1 g1 rv => ?_⟩
  cases rv with
  | d a => cases a with
    | int i => cases e; exact ⟨i, rfl, q Hb1 H1 g1⟩
    | _ => cases e
  | _ => cases e
theorem s_sl {x : V} {dx : RV} {pv : PV} {lo hi : Option Int} (e : Ex Hb H) (rx : RdR Z Hb H x dx) (h : oSl lo hi dx = some pv) {Q : VK} (q : ∀ v Hb' H', Nx Hb H Hb' H' → VR Z H Hb' H' [] v pv → Q v H') : rSlU Z.K x lo hi H Q := by
  cases rx with
  | lst s t =>
    cases h
    have z := DpAll.cut t lo hi
    exact .inr ⟨_, _, rfl, s, fun p hp => q _ _ _ (Nx.newOwn e hp) (.new hp (e.free hp) (.lst upd_same z))⟩
  | tup s t nn =>
    cases h
    have z := DpAll.cut t lo hi
    refine .inl ⟨_, _, rfl, sqt_ex e s, fun w => ?_, fun w p ob hp hob => q _ _ _ (Nx.new e hp) (.d (.tup sqt_new (DpAll.ex (Ex.new (e.free hp)) z) fun _ => NoD.of hob))⟩
    refine q _ _ _ (.refl e) (.d ?_)
    have l := DpAll.length t
    rw [l] at w
    have y : ∀ ds : List D, HT.sIx ds.length 0 lo = 0 ∧ HT.sIx ds.length ds.length hi = ds.length → cutD ds lo hi = ds := fun ds w => by
      show (List.drop _ _).take _ = _
      rw [w.1, w.2, Nat.sub_zero, List.drop_zero, List.take_length]
    rw [y _ w]
    exact .tup s t nn
  | _ => cases h
theorem re_sl {a : ME} {l h : MO} {Q : VK} (hh : tI Z (mSl a l h) σ H Q) : tSl (rSlU Z.K) (tI Z a) (tIO Z l) (tIO Z h) σ H Q := by
  obtain ⟨B, Hb, env, pv, env', st, e, q⟩ := hh
  simp only [mSl, Option.bind_eq_some_iff] at e
  obtain ⟨⟨x, e1⟩, ha, ⟨lo, e2⟩, h1, ⟨hi, e3⟩, h2, r, h3, p, h4, e⟩ := e
  cases e
  refine ⟨B, Hb, env, x, e1, st, ha, fun v Hb1 H1 g1 rv => ⟨B, Hb1, e1, lo, e2, g1.st, h1, fun Hb2 H2 g2 => ⟨B, Hb2, e2, hi, _, g2.st, h2, fun Hb3 H3 g3 => ?_⟩⟩⟩
  have rv2 := (rv.keep (fun p hp => own_some st p (g1.ow p hp)) g2.ny).keep (fun p hp => own_some st p ((g1.trans g2).ow p hp)) g3.ny
  have gg := (g1.trans g2).trans g3
  exact s_sl g3.st.sub (rv2.rd g3.st h3) h4 fun w Hb4 H4 n rw => q w Hb4 H4 (gg.nx n) (rw.anyσ.from gg.ny.back)
end
end Ol
set_option Elab.async false
set_option linter.all false
set_option maxRecDepth 100000
set_option maxHeartbeats 4000000
/-! own: built-ins, methods, what is walked -/
namespace Ol
open PySem PySem.Spec PyProof.Rows L2
section
variable {Z : Zn} {Hb H : Hp} {σ : L2.St}
theorem rdrs1 {vs : List V} {r : RV} (h : RdRs Z Hb H vs [r]) : ∃ v, vs = [v] ∧ RdR Z Hb H v r := by
  cases h with
  | cons a t => cases t; exact ⟨_, rfl, a⟩
theorem rdrs2 {vs : List V} {r r' : RV} (h : RdRs Z Hb H vs [r, r']) : ∃ v w, vs = [v, w] ∧ RdR Z Hb H v r ∧ RdR Z Hb H w r' := by
  cases h with
  | cons a t => obtain ⟨w, rfl, b⟩ := rdrs1 t; exact ⟨_, w, rfl, a, b⟩
@[simp] def oLen : List RV → Option PV
  | [.d (.str z)] => if z.length ≤ 100000 then some (iD (z.length : Nat)) else none
  | [.d (.list ds)] => some (iD (ds.length : Nat))
  | [.d (.tuple ds)] => some (iD (ds.length : Nat))
  | [.s ks] => some (iD ((dist ks).length : Nat))
  | _ => none
def rLenU (Z : Zn) : List V → Hp → VK → Prop := fun xs H Q => (∃ x n, xs = [x] ∧ LenV Z.K x H n ∧ Q (.int n) H) ∨ rLenSet Z.P Z.w xs H Q
theorem cr_lenU {X : Cx} : CallR X (.builtin "len") (rLenU (zn X)) := Ol.CallR.or call_len call_lenSet
theorem s_len : OpN Z (rLenU Z) oLen := by
  intro Hb H vs rs pv e rr h Q q
  unfold oLen at h
  split at h
  · obtain ⟨v, rfl, r⟩ := rdrs1 rr
    cases r with
    | str z =>
      split at h
      · rename_i hl
        cases h; exact .inl ⟨_, _, rfl, ⟨lineLe hl, rfl⟩, q _ _ _ (.refl e) (vrI _)⟩
      · cases h
  · obtain ⟨v, rfl, r⟩ := rdrs1 rr
    cases r with
    | lst s t => cases h; exact .inl ⟨_, _, rfl, .inl ⟨_, s, (DpAll.length t).symm⟩, q _ _ _ (.refl e) (vrI _)⟩
  · obtain ⟨v, rfl, r⟩ := rdrs1 rr
    cases r with
    | tup s t _ => cases h; exact .inl ⟨_, _, rfl, .inr ⟨_, sqt_ex e s, (DpAll.length t).symm⟩, q _ _ _ (.refl e) (vrI _)⟩
  · obtain ⟨v, rfl, r⟩ := rdrs1 rr
    cases r with
    | s w => cases w with
      | set w => cases h; exact .inr ⟨_, _, _, rfl, w, q _ _ _ (.refl e) (vrI _)⟩
  · cases h
@[simp] def oInt : List RV → Option PV
  | [.d (.int i)] => some (iD i)
  | [.d (.bool b)] => some (iD (if b then 1 else 0))
  | _ => none
theorem s_int : OpN Z (fun xs H Q => (∃ i, xs = [.int i] ∧ Q (.int i) H) ∨ ∃ k, xs = [.bl k] ∧ Q (.int (if k then 1 else 0)) H) oInt := by
  intro Hb H vs rs pv e rr h Q q
  unfold oInt at h
  split at h
  · obtain ⟨v, rfl, r⟩ := rdrs1 rr
    cases r; cases h; exact .inl ⟨_, rfl, q _ _ _ (.refl e) (vrI _)⟩
  · obtain ⟨v, rfl, r⟩ := rdrs1 rr
    cases r; cases h; exact .inr ⟨_, rfl, q _ _ _ (.refl e) (vrI _)⟩
  · cases h
@[simp] def oAbs : List RV → Option PV
  | [.d (.int i)] => some (iD (if i < 0 then -i else i))
  | _ => none
theorem s_abs : OpN Z (fun xs H Q => ∃ i, xs = [.int i] ∧ Q (.int (if i < 0 then -i else i)) H) oAbs := by
  intro Hb H vs rs pv e rr h Q q
  unfold oAbs at h
  split at h
  · obtain ⟨v, rfl, r⟩ := rdrs1 rr
    cases r; cases h; exact ⟨_, rfl, q _ _ _ (.refl e) (vrI _)⟩
  · cases h
def intsOf : List D → Option (List Int)
  | [] => some []
  | .int i :: r => (intsOf r).bind fun s => some (i :: s)
  | _ => none
theorem intsOf_eq : ∀ {ds : List D} {ns : List Int}, intsOf ds = some ns → ds = ns.map .int
  | [], _, h => by cases h; rfl
  | .int i :: r, _, h => by
    simp only [intsOf, Option.bind_eq_some_iff] at h
    obtain ⟨s, h1, h2⟩ := h
    cases h2
    rw [intsOf_eq h1]
    rfl
  | .none :: _, _, h => by cases h
  | .bool _ :: _, _, h => by cases h
  | .str _ :: _, _, h => by cases h
  | .list _ :: _, _, h => by cases h
  | .tuple _ :: _, _, h => by cases h
  | .dict _ :: _, _, h => by cases h
def minL (x : Int) (ns : List Int) : Int := ns.foldl (fun a y => if y < a then y else a) x
def maxL (x : Int) (ns : List Int) : Int := ns.foldl (fun a y => if a < y then y else a) x
theorem minL_is : ∀ (ns : List Int) (x : Int), minL x ns ∈ x :: ns ∧ ∀ y ∈ x :: ns, minL x ns ≤ y
  | [], x => ⟨by simp [minL], by simp [minL]⟩
  | n :: r, x => by
    have e : minL x (n :: r) = minL (if n < x then n else x) r := rfl
    obtain ⟨h2, h3⟩ := minL_is r (if n < x then n else x)
    rw [e]
    refine ⟨?_, fun y hy => ?_⟩
    · rcases List.mem_cons.mp h2 with z | z
      · rw [z]; split <;> simp
      · simp [z]
    · have h4 := h3 (if n < x then n else x) List.mem_cons_self
      rcases List.mem_cons.mp hy with z | z
      · subst z; split at h4 <;> rename_i c <;> simp only [c, if_true, if_false] at h4 ⊢ <;> omega
      · rcases List.mem_cons.mp z with z | z
        · subst z; split at h4 <;> rename_i c <;> simp only [c, if_true, if_false] at h4 ⊢ <;> omega
        · exact h3 y (List.mem_cons_of_mem _ z)
theorem maxL_is : ∀ (ns : List Int) (x : Int), maxL x ns ∈ x :: ns ∧ ∀ y ∈ x :: ns, y ≤ maxL x ns
  | [], x => ⟨by simp [maxL], by simp [maxL]⟩
  | n :: r, x => by
    have e : maxL x (n :: r) = maxL (if x < n then n else x) r := rfl
    obtain ⟨h2, h3⟩ := maxL_is r (if x < n then n else x)
    rw [e]
    refine ⟨?_, fun y hy => ?_⟩
    · rcases List.mem_cons.mp h2 with z | z
      · rw [z]; split <;> simp
      · simp [z]
    · have h4 := h3 (if x < n then n else x) List.mem_cons_self
      rcases List.mem_cons.mp hy with z | z
      · subst z; split at h4 <;> rename_i c <;> simp only [c, if_true, if_false] at h4 ⊢ <;> omega
      · rcases List.mem_cons.mp z with z | z
        · subst z; split at h4 <;> rename_i c <;> simp only [c, if_true, if_false] at h4 ⊢ <;> omega
        · exact h3 y (List.mem_cons_of_mem _ z)
@[simp] def oMin : List RV → Option PV
  | [.d (.int i), .d (.int j)] => some (iD (if j < i then j else i))
  | [.d (.list ds)] => (intsOf ds).bind fun ns => match ns with
    | [] => none
    | x :: r => some (iD (minL x r))
  | [.d (.tuple ds)] => (intsOf ds).bind fun ns => match ns with
    | [] => none
    | x :: r => some (iD (minL x r))
  | _ => none
@[simp] def oMax : List RV → Option PV
  | [.d (.int i), .d (.int j)] => some (iD (if j > i then j else i))
  | [.d (.list ds)] => (intsOf ds).bind fun ns => match ns with
    | [] => none
    | x :: r => some (iD (maxL x r))
  | [.d (.tuple ds)] => (intsOf ds).bind fun ns => match ns with
    | [] => none
    | x :: r => some (iD (maxL x r))
  | _ => none
def rMinU (K : Fg) : List V → Hp → VK → Prop := fun xs H Q => (∃ i j, xs = [.int i, .int j] ∧ Q (.int (if j < i then j else i)) H) ∨ rMin K xs H Q ∨ rMinT K xs H Q
def rMaxU (K : Fg) : List V → Hp → VK → Prop := fun xs H Q => (∃ i j, xs = [.int i, .int j] ∧ Q (.int (if j > i then j else i)) H) ∨ rMax K xs H Q ∨ rMaxT K xs H Q
theorem cr_minU {X : Cx} (hc : X.calm = true) (hu : X.A.units + 64 < cLine) : CallR X (.builtin "min") (rMinU X.K) := Ol.CallR.or (call_min2 hc) (Ol.CallR.or (cr_min hc) (cr_minT hc hu))
theorem cr_maxU {X : Cx} (hc : X.calm = true) (hu : X.A.units + 64 < cLine) : CallR X (.builtin "max") (rMaxU X.K) := Ol.CallR.or (call_max2 hc) (Ol.CallR.or (cr_max hc) (cr_maxT hc hu))
theorem s_min : OpN Z (rMinU Z.K) oMin := by
  intro Hb H vs rs pv e rr h Q q
  unfold oMin at h
  split at h
  · obtain ⟨v, w, rfl, r, r'⟩ := rdrs2 rr
    cases r; cases r'; cases h; exact .inl ⟨_, _, rfl, q _ _ _ (.refl e) (vrI _)⟩
  · obtain ⟨v, rfl, r⟩ := rdrs1 rr
    cases r with
    | lst s t =>
      simp only [Option.bind_eq_some_iff] at h
      obtain ⟨ns, h1, h2⟩ := h
      have hd := intsOf_eq h1
      subst hd
      cases ns with
      | nil => cases h2
      | cons x ns =>
        cases h2
        have hv := DpAll.ints_inv t
        subst hv
        obtain ⟨m1, m2⟩ := minL_is ns x
        refine .inr (.inl ⟨_, x :: ns, rfl, s, by simp, fun m hm hl => ?_⟩)
        have z : m = minL x ns := by have a := hl _ m1; have b := m2 _ hm; omega
        rw [z]
        exact q _ _ _ (.refl e) (vrI _)
  · obtain ⟨v, rfl, r⟩ := rdrs1 rr
    cases r with
    | tup s t _ =>
      simp only [Option.bind_eq_some_iff] at h
      obtain ⟨ns, h1, h2⟩ := h
      have hd := intsOf_eq h1
      subst hd
      cases ns with
      | nil => cases h2
      | cons x ns =>
        cases h2
        have hv := DpAll.ints_inv t
        subst hv
        obtain ⟨m1, m2⟩ := minL_is ns x
        refine .inr (.inr ⟨_, x, ns, rfl, sqt_ex e s, fun m hm hl => ?_⟩)
        have z : m = minL x ns := by have a := hl _ m1; have b := m2 _ hm; omega
        rw [z]
        exact q _ _ _ (.refl e) (vrI _)
  · cases h
theorem s_max : OpN Z (rMaxU Z.K) oMax := by
  intro Hb H vs rs pv e rr h Q q
  unfold oMax at h
  split at h
  · obtain ⟨v, w, rfl, r, r'⟩ := rdrs2 rr
    cases r; cases r'; cases h; exact .inl ⟨_, _, rfl, q _ _ _ (.refl e) (vrI _)⟩
  · obtain ⟨v, rfl, r⟩ := rdrs1 rr
    cases r with
    | lst s t =>
      simp only [Option.bind_eq_some_iff] at h
      obtain ⟨ns, h1, h2⟩ := h
      have hd := intsOf_eq h1
      subst hd
      cases ns with
      | nil => cases h2
      | cons x ns =>
        cases h2
        have hv := DpAll.ints_inv t
        subst hv
        obtain ⟨m1, m2⟩ := maxL_is ns x
        refine .inr (.inl ⟨_, x :: ns, rfl, s, by simp, fun m hm hl => ?_⟩)
        have z : m = maxL x ns := by have a := hl _ m1; have b := m2 _ hm; omega
        rw [z]
        exact q _ _ _ (.refl e) (vrI _)
  · obtain ⟨v, rfl, r⟩ := rdrs1 rr
    cases r with
    | tup s t _ =>
      simp only [Option.bind_eq_some_iff] at h
      obtain ⟨ns, h1, h2⟩ := h
      have hd := intsOf_eq h1
      subst hd
      cases ns with
      | nil => cases h2
      | cons x ns =>
        cases h2
        have hv := DpAll.ints_inv t
        subst hv
        obtain ⟨m1, m2⟩ := maxL_is ns x
        refine .inr (.inr ⟨_, x, ns, rfl, sqt_ex e s, fun m hm hl => ?_⟩)
        have z : m = maxL x ns := by have a := hl _ m1; have b := m2 _ hm; omega
        rw [z]
        exact q _ _ _ (.refl e) (vrI _)
  · cases h
@[simp] def oList : List RV → Option PV
  | [.d (.list ds)] => some (.new (.lst ds))
  | [.d (.tuple ds)] => some (.new (.lst ds))
  | _ => none
@[simp] def oTuple : List RV → Option PV
  | [.d (.list ds)] => some (.d (.tuple ds))
  | [.d (.tuple ds)] => some (.d (.tuple ds))
  | _ => none
theorem s_list : OpN Z (fun xs H Q => ∃ p ys, xs = [.ref p] ∧ (SqL Z.K H p ys ∨ SqT Z.K H p ys) ∧ ∀ l, H l = none → Q (.ref l) (upd H l (.lst ys))) oList := by
  intro Hb H vs rs pv e rr h Q q
  unfold oList at h
  split at h
  · obtain ⟨v, rfl, r⟩ := rdrs1 rr
    cases r with
    | lst s t => cases h; exact ⟨_, _, rfl, .inl s, fun p hp => q _ _ _ (Nx.newOwn e hp) (.new hp (e.free hp) (.lst upd_same t))⟩
  · obtain ⟨v, rfl, r⟩ := rdrs1 rr
    cases r with
    | tup s t _ => cases h; exact ⟨_, _, rfl, .inr (sqt_ex e s), fun p hp => q _ _ _ (Nx.newOwn e hp) (.new hp (e.free hp) (.lst upd_same t))⟩
  · cases h
theorem s_tuple : OpN Z (fun xs H Q => ∃ p ys, xs = [.ref p] ∧ ((SqL Z.K H p ys ∧ NewT H ys Q) ∨ (SqT Z.K H p ys ∧ Q (.ref p) H))) oTuple := by
  intro Hb H vs rs pv e rr h Q q
  unfold oTuple at h
  split at h
  · obtain ⟨v, rfl, r⟩ := rdrs1 rr
    cases r with
    | lst s t => cases h; exact ⟨_, _, rfl, .inl ⟨s, fun p ob hp hob => q _ _ _ (Nx.new e hp) (.d (.tup sqt_new (DpAll.ex (Ex.new (e.free hp)) t) fun _ => NoD.of hob))⟩⟩
  · obtain ⟨v, rfl, r⟩ := rdrs1 rr
    cases r with
    | tup s t n => cases h; exact ⟨_, _, rfl, .inr ⟨sqt_ex e s, q _ _ _ (.refl e) (.d (.tup s t n))⟩⟩
  · cases h
def keysOf : List D → Option (List Key)
  | [] => some []
  | d :: r => (keyOf d).bind fun k => (keysOf r).bind fun ks => some (k :: ks)
theorem keysOf_v {K : Fg} : ∀ {ds : List D} {vs : List V} {ks : List Key}, DpAll K H vs ds → keysOf ds = some ks → vs = ks.map kV
  | [], _, _, h, e => by cases h; cases e; rfl
  | d :: ds, _, _, h, e => by
    simp only [keysOf, Option.bind_eq_some_iff] at e
    obtain ⟨k, h1, ks, h2, h3⟩ := e
    cases h3
    cases h with
    | cons a b => rw [keyOf_v a h1, keysOf_v b h2]; rfl
@[simp] def oSet : List RV → Option PV
  | [.d (.list ds)] => (keysOf ds).bind fun ks => if ks.length + 1 < scanBound then some (.new (.set ks)) else none
  | [.d (.tuple ds)] => (keysOf ds).bind fun ks => if ks.length + 1 < scanBound then some (.new (.set ks)) else none
  | _ => none
theorem s_set : OpN Z (rSetK Z.K Z.P Z.w) oSet := by
  intro Hb H vs rs pv e rr h Q q
  unfold oSet at h
  split at h
  · obtain ⟨v, rfl, r⟩ := rdrs1 rr
    cases r with
    | lst s t =>
      simp only [Option.bind_eq_some_iff] at h
      obtain ⟨ks, h1, h2⟩ := h
      have hv := keysOf_v t h1
      subst hv
      split at h2
      · rename_i hl
        cases h2
        exact ⟨_, ks, rfl, .inl s, hl, .inl fun p hp => q _ _ _ (Nx.newOwn e hp) (.new hp (e.free hp) (.set upd_same))⟩
      · cases h2
  · obtain ⟨v, rfl, r⟩ := rdrs1 rr
    cases r with
    | tup s t _ =>
      simp only [Option.bind_eq_some_iff] at h
      obtain ⟨ks, h1, h2⟩ := h
      have hv := keysOf_v t h1
      subst hv
      split at h2
      · rename_i hl
        cases h2
        exact ⟨_, ks, rfl, .inr (sqt_ex e s), hl, .inl fun p hp => q _ _ _ (Nx.newOwn e hp) (.new hp (e.free hp) (.set upd_same))⟩
      · cases h2
  · cases h
@[simp] def oSet0 : List RV → Option PV
  | [] => some (.new (.set []))
  | _ => none
theorem s_set0 : OpN Z (rSet0K Z.P Z.w) oSet0 := by
  intro Hb H vs rs pv e rr h Q q
  unfold oSet0 at h
  split at h
  · cases rr
    cases h
    refine ⟨rfl, fun p hp => q _ _ _ (Nx.newOwn e hp) (.new hp (e.free hp) (.set ?_))⟩
    rw [upd_same]
    have z : (fun _ : Key => false) = memb ([] : List Key) := funext fun k => by simp [memb]
    rw [z]
    rfl
  · cases h
def boolsOf : List D → Option (List Bool)
  | [] => some []
  | .bool i :: r => (boolsOf r).bind fun s => some (i :: s)
  | _ => none
theorem boolsOf_eq : ∀ {ds : List D} {ns : List Bool}, boolsOf ds = some ns → ds = ns.map .bool
  | [], _, h => by cases h; rfl
  | .bool i :: r, _, h => by
    simp only [boolsOf, Option.bind_eq_some_iff] at h
    obtain ⟨s, h1, h2⟩ := h
    cases h2
    rw [boolsOf_eq h1]
    rfl
  | .none :: _, _, h => by cases h
  | .int _ :: _, _, h => by cases h
  | .str _ :: _, _, h => by cases h
  | .list _ :: _, _, h => by cases h
  | .tuple _ :: _, _, h => by cases h
  | .dict _ :: _, _, h => by cases h
@[simp] def oAll : List RV → Option PV
  | [.d (.list ds)] => (boolsOf ds).bind fun bs => some (bD (bs.all id))
  | _ => none
@[simp] def oAny : List RV → Option PV
  | [.d (.list ds)] => (boolsOf ds).bind fun bs => some (bD (bs.any id))
  | _ => none
def oSum : List RV → Option PV
  | [.d (.list ds)] => (intsOf ds).bind fun ns => some (iD ns.sum)
  | _ => none
theorem s_all : OpN Z (rAll Z.K) oAll := by
  intro Hb H vs rs pv e rr h Q q
  unfold oAll at h
  split at h
  · obtain ⟨v, rfl, r⟩ := rdrs1 rr
    cases r with
    | lst s t =>
      simp only [Option.bind_eq_some_iff] at h
      obtain ⟨bs, h1, h2⟩ := h
      cases h2
      have hd := boolsOf_eq h1
      subst hd
      have hv := DpAll.bls_inv t
      subst hv
      exact ⟨_, bs, rfl, s, q _ _ _ (.refl e) (vrB _)⟩
  · cases h
theorem s_any : OpN Z (rAny Z.K) oAny := by
  intro Hb H vs rs pv e rr h Q q
  unfold oAny at h
  split at h
  · obtain ⟨v, rfl, r⟩ := rdrs1 rr
    cases r with
    | lst s t =>
      simp only [Option.bind_eq_some_iff] at h
      obtain ⟨bs, h1, h2⟩ := h
      cases h2
      have hd := boolsOf_eq h1
      subst hd
      have hv := DpAll.bls_inv t
      subst hv
      exact ⟨_, bs, rfl, s, q _ _ _ (.refl e) (vrB _)⟩
  · cases h
theorem s_sum : OpN Z (rSum Z.K) oSum := by
  intro Hb H vs rs pv e rr h Q q
  unfold oSum at h
  split at h
  · obtain ⟨v, rfl, r⟩ := rdrs1 rr
    cases r with
    | lst s t =>
      simp only [Option.bind_eq_some_iff] at h
      obtain ⟨bs, h1, h2⟩ := h
      cases h2
      have hd := intsOf_eq h1
      subst hd
      have hv := DpAll.ints_inv t
      subst hv
      exact ⟨_, bs, rfl, s, q _ _ _ (.refl e) (vrI _)⟩
  · cases h
/-! isinstance -/
@[simp] def tyD : RV → String
  | .d .none => "NoneType"
  | .d (.bool _) => "bool"
  | .d (.int _) => "int"
  | .d (.str _) => "str"
  | .d (.list _) => "list"
  | .d (.tuple _) => "tuple"
  | .d (.dict _) => "dict"
  | .m _ => "dict"
  | .s _ => "set"
  | .t _ => "dict"
@[simp] def noSet : RV → Bool
  | .s _ => false
  | .t _ => false
  | _ => true
theorem tyX_of {v : V} {r : RV} (e : Ex Hb H) (h : RdR Z Hb H v r) (n : noSet r = true) : TyX Z.K H v (.type (tyD r)) := by
  cases h with
  | non => exact .base .non
  | bl b => exact .base (.bl b)
  | int i => exact .base (.int i)
  | str x => exact .base (.str x)
  | lst s t =>
    rcases s with (s | ⟨o, s⟩) | ⟨o, its, n, s, hc, _⟩
    · exact .base (.lst s)
    · exact .base (.frz s)
    · exact .kList s hc
  | tup s t _ =>
    rcases sqt_ex e s with (s | ⟨o, s⟩) | ⟨o, its, n, s, hc, _⟩
    · exact .base (.tup s)
    · exact .fTuple s
    · exact .kTuple s hc
  | s w => cases n
  | t w => cases n
  | m w => cases w with
    | dic w1 _ _ => exact .base (.dK w1)
@[simp] def isaB (a b : String) : Bool := a == b || (a == "bool" && b == "int")
@[simp] def isaOk (b : String) : Bool := ["str", "int", "bool", "list", "tuple", "dict"].contains b
theorem kitB_is {r : RV} {T : String} (h : isaOk T = true) (n : noSet r = true) : kitB (tyD r) T = some (isaB (tyD r) T) := by
  have hT : T = "str" ∨ T = "int" ∨ T = "bool" ∨ T = "list" ∨ T = "tuple" ∨ T = "dict" := by simpa [isaOk] using h
  have hR : tyD r = "NoneType" ∨ tyD r = "bool" ∨ tyD r = "int" ∨ tyD r = "str" ∨ tyD r = "list" ∨ tyD r = "tuple" ∨ tyD r = "dict" := by
    cases r with
    | d x => cases x <;> simp [tyD]
    | s _ => cases n
    | t _ => cases n
    | m _ => simp [tyD]
  rcases hR with e | e | e | e | e | e | e <;> rw [e] <;> rcases hT with e | e | e | e | e | e <;> rw [e] <;> decide +kernel
@[simp] def mIsi (a : ME) (T : String) : ME := fun env => (a env).bind fun x => (rd x.2 x.1).bind fun r => if noSet r = true ∧ isaOk T = true then some (bD (isaB (tyD r) T), x.2) else none
@[simp] def mIsi2 (a : ME) (T T' : String) : ME := fun env => (a env).bind fun x => (rd x.2 x.1).bind fun r => if noSet r = true ∧ isaOk T = true ∧ isaOk T' = true then some (bD (isaB (tyD r) T || isaB (tyD r) T'), x.2) else none
theorem re_isi {a : ME} {T : String} {Q : VK} (h : tI Z (mIsi a T) σ H Q) : tCB (rIsi Z.K) (tCons (tI Z a) (tCons (tC (.ty T)) tNil)) σ H Q := by
  obtain ⟨B, Hb, env, pv, env', st, e, q⟩ := h
  simp only [mIsi, Option.bind_eq_some_iff] at e
  obtain ⟨⟨x, e1⟩, ha, r, h1, h2⟩ := e
  split at h2
  · rename_i c
    cases h2
    exact ⟨B, Hb, env, x, _, st, ha, fun v Hb1 H1 g1 rv => ⟨v, .ty T, _, _, _, rfl, .ty T, tyX_of g1.st.sub (rv.rd g1.st h1) c.1, kit_ty (kitB_is c.2 c.1), q _ Hb1 H1 g1 (vrB _)⟩⟩
  · cases h2
theorem re_isi2 {a : ME} {T T' : String} {Q : VK} (h : tI Z (mIsi2 a T T') σ H Q) : tCB (rIsiT Z.K) (tCons (tI Z a) (tCons (tTup (tCons (tC (.ty T)) (tCons (tC (.ty T')) tNil))) tNil)) σ H Q := by
  obtain ⟨B, Hb, env, pv, env', st, e, q⟩ := h
  simp only [mIsi2, Option.bind_eq_some_iff] at e
  obtain ⟨⟨x, e1⟩, ha, r, h1, h2⟩ := e
  split at h2
  · rename_i c
    cases h2
    refine ⟨B, Hb, env, x, _, st, ha, fun v Hb1 H1 g1 rv => ?_⟩
    refine ⟨show 2 ≤ sizeLine by decide, fun p hp => ?_⟩
    have n := Nx.new (o := .tup [V.ty T, V.ty T']) g1.st.sub hp
    have g2 := g1.nx n
    have rv2 := rv.keep (fun p hp => own_some st p (g1.ow p hp)) n.to
    have k1 := kit_ty (K := Z.K) (kitB_is c.2.1 c.1)
    have k2 := kit_ty (K := Z.K) (kitB_is c.2.2 c.1)
    refine ⟨v, p, _, _, [.type T, .type T'], _, rfl, upd_same, .cons (.ty T) (.cons (.ty T') .nil), tyX_of g2.st.sub (rv2.rd g2.st h1) c.1, ?_, q _ _ _ g2 (vrB _)⟩
    refine kitAny_cons k1 (fun h => ?_) (fun h => by rw [h]; rfl)
    refine kitAny_cons k2 (fun h' => ?_) (fun h' => by rw [h']; simp)
    rw [h, h']
    exact kitAny_nil
  · cases h2
/-! sorted(set(x)) of texts -/
def strsOf : List D → Option (List Str)
  | [] => some []
  | .str i :: r => (strsOf r).bind fun s => some (i :: s)
  | _ => none
theorem strsOf_eq : ∀ {ds : List D} {ns : List Str}, strsOf ds = some ns → ds = ns.map .str
  | [], _, h => by cases h; rfl
  | .str i :: r, _, h => by
    simp only [strsOf, Option.bind_eq_some_iff] at h
    obtain ⟨s, h1, h2⟩ := h
    cases h2
    rw [strsOf_eq h1]
    rfl
  | .none :: _, _, h => by cases h
  | .bool _ :: _, _, h => by cases h
  | .int _ :: _, _, h => by cases h
  | .list _ :: _, _, h => by cases h
  | .tuple _ :: _, _, h => by cases h
  | .dict _ :: _, _, h => by cases h
def oSorted (r : RV) : Option PV := match r with
  | .d (.list ds) => (strsOf ds).bind fun zs => if zs.length + 1 < scanBound ∧ (dist zs).length < 64 then some (.new (.lst ((sortS (dist zs)).map .str))) else none
  | .d (.tuple ds) => (strsOf ds).bind fun zs => if zs.length + 1 < scanBound ∧ (dist zs).length < 64 then some (.new (.lst ((sortS (dist zs)).map .str))) else none
  | _ => none
def mSortedSet (a : ME) : ME := m1 oSorted a
theorem dist_map {α β : Type} [DecidableEq α] [DecidableEq β] (f : α → β) (hf : ∀ a b, f a = f b → a = b) (ks : List α) : dist (ks.map f) = (dist ks).map f := by
  have add : ∀ (ks : List α) (k : α), added (ks.map f) (f k) = (added ks k).map f := fun ks k => by
    unfold added
    have e : f k ∈ ks.map f ↔ k ∈ ks := by
      rw [List.mem_map]
      exact ⟨fun ⟨a, h1, h2⟩ => hf _ _ h2 ▸ h1, fun h => ⟨k, h, rfl⟩⟩
    by_cases h : k ∈ ks
    · rw [if_pos h, if_pos (e.mpr h)]
    · rw [if_neg h, if_neg (fun z => h (e.mp z))]; simp
  have aux : ∀ (ks acc : List α), (ks.map f).foldl added (acc.map f) = (ks.foldl added acc).map f := by
    intro ks
    induction ks with
    | nil => intro acc; rfl
    | cons k ks ih => intro acc; rw [List.map_cons, List.foldl_cons, List.foldl_cons, add, ih]
  exact aux ks []
theorem re_sortedSet {a : ME} {Q : VK} (h : tI Z (mSortedSet a) σ H Q) : tCB (rSortedQ Z.P Z.w) (tCons (tCB (rSetK Z.K Z.P Z.w) (tCons (tI Z a) tNil)) tNil) σ H Q := by
  obtain ⟨B, Hb, env, pv, env', st, e, q⟩ := h
  simp only [mSortedSet, m1, Option.bind_eq_some_iff] at e
  obtain ⟨⟨x, e1⟩, ha, r, h1, p, h2, h3⟩ := e
  cases h3
  refine ⟨B, Hb, env, x, _, st, ha, fun v Hb1 H1 g1 rv => ?_⟩
  have main : ∀ (a : Addr) (zs : List Str), v = .ref a → (SqL Z.K H1 a (zs.map V.str) ∨ SqT Z.K H1 a (zs.map V.str)) → zs.length + 1 < scanBound ∧ (dist zs).length < 64 → pv = PV.new (Ob.lst ((sortS (dist zs)).map PyData.str)) →
      rSetK Z.K Z.P Z.w [v] H1 fun x H2 => rSortedQ Z.P Z.w [x] H2 Q := by
    intro a zs ev hs hl ep
    subst ev ep
    have ek : zs.map V.str = (zs.map Sum.inr : List Key).map kV := by rw [List.map_map]; rfl
    rw [ek] at hs
    refine ⟨a, zs.map Sum.inr, rfl, hs, by rw [List.length_map]; exact hl.1, .inr fun s hn => ?_⟩
    have n1 := Nx.newOwn (o := SetQ Z.P Z.w s (dist (zs.map Sum.inr))) g1.st.sub hn
    have g2 := g1.nx n1
    refine ⟨s, dist zs, rfl, by rw [upd_same, dist_map Sum.inr (fun _ _ h => Sum.inr.inj h)], hl.2, fun ys t hp hsr ht => ?_⟩
    have n2 := Nx.newOwn (o := .lst (ys.map V.str)) g2.st.sub ht
    have g3 := g2.nx n2
    have ey := sortS_of hp hsr
    subst ey
    exact q _ _ _ g3 (.new (g1.ny.back t (by
      have : t ≠ s := fun z => by rw [z, upd_same] at ht; cases ht
      rw [upd_ne this] at ht
      exact ht)) (g2.st.sub.free ht) (.lst upd_same (DpAll.strs _)))
  have w := rv.rd g1.st h1
  unfold oSorted at h2
  split at h2
  · cases w with
    | lst s t =>
      simp only [Option.bind_eq_some_iff] at h2
      obtain ⟨zs, h3, h4⟩ := h2
      have hd := strsOf_eq h3
      subst hd
      have hv := DpAll.strs_inv t
      subst hv
      split at h4
      · rename_i c; exact main _ zs rfl (.inl s) c (Option.some.inj h4).symm
      · cases h4
  · cases w with
    | tup s t _ =>
      simp only [Option.bind_eq_some_iff] at h2
      obtain ⟨zs, h3, h4⟩ := h2
      have hd := strsOf_eq h3
      subst hd
      have hv := DpAll.strs_inv t
      subst hv
      split at h4
      · rename_i c; exact main _ zs rfl (.inr (sqt_ex g1.st.sub s)) c (Option.some.inj h4).symm
      · cases h4
  · cases h2
end
end Ol
set_option Elab.async false
set_option linter.all false
set_option maxRecDepth 100000
set_option maxHeartbeats 4000000
/-! own: methods, items, what is walked, dict comprehensions -/
namespace Ol
open PySem PySem.Spec PyProof.Rows L2
section
variable {Z : Zn} {Hb H : Hp} {σ : L2.St}
theorem dp1 {K : Fg} {vs : List V} {d : D} (h : DpAll K Hb vs [d]) : ∃ v, vs = [v] ∧ Dp K Hb v d := by
  cases h with
  | cons a t => cases t; exact ⟨_, rfl, a⟩
theorem dp2 {K : Fg} {vs : List V} {d e : D} (h : DpAll K Hb vs [d, e]) : ∃ v w, vs = [v, w] ∧ Dp K Hb v d ∧ Dp K Hb w e := by
  cases h with
  | cons a t => obtain ⟨w, rfl, b⟩ := dp1 t; exact ⟨_, w, rfl, a, b⟩
theorem vrN {H0 : Hp} : VR Z H0 Hb H σ .non (.d .none) := .d .non
@[simp] def fAppend : Ob → List D → Option (PV × Ob)
  | .lst xs, [d] => if xs.length < 100000 then some (.d .none, .lst (xs ++ [d])) else none
  | _, _ => none
theorem m_append : OpM Z rAppend fAppend := by
  intro Hb H p o vs ds pv o' e ow hb hd h Q q
  unfold fAppend at h
  split at h
  · split at h
    · rename_i hl
      cases h
      obtain ⟨v, rfl, r⟩ := dp1 hd
      cases ow with
      | lst a b =>
        have l := DpAll.length b
        exact ⟨p, _, v, rfl, rfl, a, by rw [l]; exact Nat.lt_of_lt_of_le hl (by decide), q _ _ (.lst upd_same (DpAll.append b (.cons r .nil))) vrN⟩
    · cases h
  · cases h
instance {i : Int} : Decidable (-(2 ^ 63) ≤ i ∧ i < 2 ^ 63) := by infer_instance
def fPopAt : Ob → List D → Option (PV × Ob)
  | .lst xs, [.int i] => if -(2 ^ 63) ≤ i ∧ i < 2 ^ 63 then (seqIndex? i xs.length).bind fun k => (xs[k]?).bind fun y => some (.d y, .lst (xs.eraseIdx k)) else none
  | _, _ => none
theorem m_popAt : OpM Z rPopAt fPopAt := by
  intro Hb H p o vs ds pv o' e ow hb hd h Q q
  unfold fPopAt at h
  split at h
  · split at h
    · rename_i hl
      simp only [Option.bind_eq_some_iff] at h
      obtain ⟨k, h1, y, h2, h3⟩ := h
      cases h3
      obtain ⟨v, rfl, r⟩ := dp1 hd
      cases r
      cases ow with
      | lst a b =>
        have l := DpAll.length b
        obtain ⟨u, g1, g2⟩ := DpAll.get b h2
        exact ⟨p, _, _, k, u, rfl, rfl, a, hl.1, hl.2, by rw [l]; exact h1, g1, q _ _ (.lst upd_same (DpAll.eraseIdx k b)) (.d g2)⟩
    · cases h
  · cases h
def fPop : Ob → List D → Option (PV × Ob)
  | .lst xs, [] => (xs[xs.length - 1]?).bind fun y => some (.d y, .lst xs.dropLast)
  | _, _ => none
theorem m_pop : OpM Z rPop fPop := by
  intro Hb H p o vs ds pv o' e ow hb hd h Q q
  unfold fPop at h
  split at h
  · simp only [Option.bind_eq_some_iff] at h
    obtain ⟨y, h2, h3⟩ := h
    cases h3
    cases hd
    cases ow with
    | lst a b =>
      have l := DpAll.length b
      obtain ⟨u, g1, g2⟩ := DpAll.get b h2
      exact ⟨p, _, u, rfl, rfl, a, by rw [l]; exact g1, q _ _ (.lst upd_same (DpAll.dropLast b)) (.d g2)⟩
  · cases h
def fClear : Ob → List D → Option (PV × Ob)
  | .lst _, [] => some (.d .none, .lst [])
  | _, _ => none
theorem m_clear : OpM Z rClear fClear := by
  intro Hb H p o vs ds pv o' e ow hb hd h Q q
  unfold fClear at h
  split at h
  · cases h
    cases hd
    cases ow with
    | lst a b => exact ⟨p, _, rfl, rfl, a, q _ _ (.lst upd_same .nil) vrN⟩
  · cases h
def fAdd : Ob → List D → Option (PV × Ob)
  | .set ks, [d] => (keyOf d).bind fun k => if (dist ks).length + 1 < scanBound then some (.d .none, .set (ks ++ [k])) else none
  | _, _ => none
theorem m_add : OpM Z (rSAddK Z.P Z.w) fAdd := by
  intro Hb H p o vs ds pv o' e ow hb hd h Q q
  cases ow with
  | lst _ _ => cases h
  | dic _ _ _ => cases h
  | dit _ _ => cases h
  | @set ks a =>
    cases hd with
    | nil => cases h
    | cons r t =>
      cases t with
      | cons _ _ => cases h
      | nil =>
        simp only [fAdd, Option.bind_eq_some_iff] at h
        obtain ⟨k, h1, h2⟩ := h
        split at h2
        · rename_i hl
          cases h2
          refine ⟨p, k, _, _, rfl, by rw [keyOf_v r h1], a, hl, q _ _ (.set ?_) vrN⟩
          rw [upd_same]
          have e1 : (fun j => memb ks j || decide (j = k)) = memb (ks ++ [k]) := funext fun j => by
            rw [Bool.eq_iff_iff]
            simp [memb]
          have e2 : (if memb ks k = true then (dist ks).length else (dist ks).length + 1) = (dist (ks ++ [k])).length := by
            rw [dist_snoc]
            unfold added memb
            by_cases z : k ∈ ks
            · simp [z, mem_dist]
            · simp [z, mem_dist]
          rw [e1, e2]
        · cases h2
def fSetL : Ob → D → D → Option Ob
  | .lst xs, .int k, d => (ixN xs.length k).bind fun j => some (.lst (xs.set j d))
  | _, _, _ => none
theorem t_setL : OpS Z rSetL fSetL := by
  intro Hb H p o k x dk d o' e ow hb hk hx h Q q
  unfold fSetL at h
  split at h
  · simp only [Option.bind_eq_some_iff] at h
    obtain ⟨j, h1, h2⟩ := h
    cases h2
    cases hk
    cases ow with
    | lst a b =>
      have l := DpAll.length b
      exact ⟨p, _, _, j, rfl, rfl, a, by rw [l]; exact h1, q _ (.lst upd_same (DpAll.set hx j b))⟩
  · cases h
/-! what is walked -/
@[simp] def mIter (a : ME) : MI := fun env => (a env).bind fun x => match x.1 with
  | .d (.list ds) => some (ds, x.2)
  | .new (.lst ds) => some (ds, x.2)
  | .d (.tuple ds) => some (ds, x.2)
  | .d (.str z) => some (z.cps.toList.map fun c => .str ⟨#[c]⟩, x.2)
  | _ => none
def iU (K : Fg) (te : TE) : TI := fun σ H R => iList K te σ H R ∨ iTup K te σ H R ∨ iStr te σ H R
theorem pi_U {X : Cx} {tg e : Expr} {te : TE} (h : PE X e te) : PI X tg e (iU X.K te) := PI.or (pi_list h) (PI.or (pi_tup h) (pi_str h))
theorem itr_list {a : Addr} {xs : List V} {ds : List D} (s : SqL Z.K Hb a xs) (t : DpAll Z.K Hb xs ds) : ItR Z (Itl Z.K a) ds Hb := by
  refine ⟨fun H => SqL Z.K H a xs, YAt xs, ?_, fun H e => sql_ex e s, fun i Hb1 H x H' hi e1 e2 y => ?_⟩
  · rw [← DpAll.length t]; exact walk_list
  · obtain ⟨rfl, hx⟩ := y
    have hd := List.getElem?_eq_getElem hi
    obtain ⟨v, h1, h2⟩ := DpAll.get t hd
    rw [hx] at h1
    cases h1
    exact ⟨Hb1, _, .refl e2, hd, Dp.ex e1 h2⟩
theorem itr_tup {a : Addr} {xs : List V} {ds : List D} (s : SqT Z.K Hb a xs) (t : DpAll Z.K Hb xs ds) : ItR Z (Itt Z.K a) ds Hb := by
  refine ⟨fun H => SqT Z.K H a xs, YAt xs, ?_, fun H e => sqt_ex e s, fun i Hb1 H x H' hi e1 e2 y => ?_⟩
  · rw [← DpAll.length t]; exact walk_tup
  · obtain ⟨rfl, hx⟩ := y
    have hd := List.getElem?_eq_getElem hi
    obtain ⟨v, h1, h2⟩ := DpAll.get t hd
    rw [hx] at h1
    cases h1
    exact ⟨Hb1, _, .refl e2, hd, Dp.ex e1 h2⟩
theorem itr_str {z : Str} : ItR Z (Its z) (z.cps.toList.map fun c => .str ⟨#[c]⟩) Hb := by
  refine ⟨fun _ => True, (fun i H v H' => H' = H ∧ ∃ c, z.cps[i]? = some c ∧ v = .str ⟨#[c]⟩), ?_, fun H e => trivial, fun i Hb1 H x H' hi e1 e2 y => ?_⟩
  · rw [List.length_map, Array.length_toList]; exact walk_str
  · obtain ⟨rfl, c, hx, rfl⟩ := y
    exact ⟨Hb1, _, .refl e2, by rw [List.getElem?_map, Array.getElem?_toList, hx]; rfl, .str _⟩
theorem ri_iter {a : ME} {R : It → Hp → Prop} (h : tII Z (mIter a) σ H R) : iU Z.K (tI Z a) σ H R := by
  obtain ⟨B, Hb, env, ds, env', st, e, q⟩ := h
  simp only [mIter, Option.bind_eq_some_iff] at e
  obtain ⟨⟨x, e1⟩, ha, e⟩ := e
  have go : ∀ (T : V → Hp → Prop), (∀ v Hb1 H1, Go Z B σ env Hb H e1 Hb1 H1 → VR Z H Hb1 H1 σ v x → T v H1) → tI Z a σ H T := fun T hT => ⟨B, Hb, env, x, e1, st, ha, hT⟩
  split at e
  · rename_i x1 ds1 hx
    have hx' : x = _ := hx
    subst hx'
    cases e
    refine .inl (go _ fun v Hb1 H1 g1 rv => ?_)
    cases rv with
    | d w => cases w with
      | lst s t => exact ⟨_, rfl, ⟨_, sql_ex g1.st.sub s⟩, q _ Hb1 H1 g1 (itr_list s t)⟩
  · rename_i x1 ds1 hx
    have hx' : x = _ := hx
    subst hx'
    cases e
    refine .inl (go _ fun v Hb1 H1 g1 rv => ?_)
    obtain ⟨Hb2, g2, hd⟩ := fz_known st g1 rv rfl
    cases hd with
    | lst s t => exact ⟨_, rfl, ⟨_, sql_ex g2.st.sub s⟩, q _ Hb2 H1 g2 (itr_list s t)⟩
  · rename_i x1 ds1 hx
    have hx' : x = _ := hx
    subst hx'
    cases e
    refine .inr (.inl (go _ fun v Hb1 H1 g1 rv => ?_))
    cases rv with
    | d w => cases w with
      | tup s t _ => exact ⟨_, rfl, ⟨_, sqt_ex g1.st.sub s⟩, q _ Hb1 H1 g1 (itr_tup s t)⟩
  · rename_i x1 ds1 hx
    have hx' : x = _ := hx
    subst hx'
    cases e
    refine .inr (.inr (go _ fun v Hb1 H1 g1 rv => ?_))
    cases rv with
    | d w => cases w with
      | str z => exact ⟨_, rfl, q _ Hb1 H1 g1 itr_str⟩
  · cases e
def rangeD (lo : Int) (n : Nat) : List D := (List.range n).map fun (i : Nat) => .int (lo + (i : Int))
theorem itr_range {lo : Int} {n : Nat} : ItR Z (Itr lo n) (rangeD lo n) Hb := by
  refine ⟨fun _ => True, YFn (fun i => .int (lo + i)), ?_, fun H e => trivial, fun i Hb1 H x H' hi e1 e2 y => ?_⟩
  · unfold rangeD; rw [List.length_map, List.length_range]; exact walk_range
  · obtain ⟨rfl, rfl⟩ := y
    have hi' : i < n := by simpa [rangeD] using hi
    exact ⟨Hb1, .int (lo + (i : Nat)), .refl e2, by simp [rangeD, hi'], .int _⟩
@[simp] def mRange1 (a : MA) : MI := fun env => (a env).bind fun xs => match xs.1 with
  | [.d (.int j)] => if -(2 ^ 62) ≤ j ∧ j < 2 ^ 62 then some (rangeD 0 j.toNat, xs.2) else none
  | _ => none
@[simp] def mRange2 (a : MA) : MI := fun env => (a env).bind fun xs => match xs.1 with
  | [.d (.int i), .d (.int j)] => if (-(2 ^ 62) ≤ i ∧ i < 2 ^ 62) ∧ -(2 ^ 62) ≤ j ∧ j < 2 ^ 62 then some (rangeD i (j - i).toNat, xs.2) else none
  | _ => none
theorem vr_int {B : Bs} {H0 : Hp} {i : Int} {v : V} (h : VR Z H0 Hb H σ v (.d (.int i))) : v = .int i := by
  cases h with
  | d a => cases a; rfl
theorem ri_range1 {a : MA} {R : It → Hp → Prop} (h : tII Z (mRange1 a) σ H R) : iRng1 (tIA Z a) σ H R := by
  obtain ⟨B, Hb, env, ds, env', st, e, q⟩ := h
  simp only [mRange1, Option.bind_eq_some_iff] at e
  obtain ⟨⟨xs, e1⟩, ha, e⟩ := e
  refine ⟨B, Hb, env, xs, e1, st, ha, fun vs ps Hb1 H1 g1 rv => ?_⟩
  split at e
  · rename_i x1 j hx
    have hx' : xs = _ := hx
    subst hx'
    split at e
    · rename_i c
      cases e
      cases rv with
      | d a t =>
        cases t
        cases a
        exact ⟨j, rfl, c.1, c.2, q _ Hb1 H1 g1 itr_range⟩
    · cases e
  · cases e
theorem ri_range2 {a : MA} {R : It → Hp → Prop} (h : tII Z (mRange2 a) σ H R) : iRng2 (tIA Z a) σ H R := by
  obtain ⟨B, Hb, env, ds, env', st, e, q⟩ := h
  simp only [mRange2, Option.bind_eq_some_iff] at e
  obtain ⟨⟨xs, e1⟩, ha, e⟩ := e
  refine ⟨B, Hb, env, xs, e1, st, ha, fun vs ps Hb1 H1 g1 rv => ?_⟩
  split at e
  · rename_i x1 i j hx
    have hx' : xs = _ := hx
    subst hx'
    split at e
    · rename_i c
      cases e
      cases rv with
      | d a t =>
        cases a
        cases t with
        | d a t =>
          cases a
          cases t
          exact ⟨i, j, rfl, ⟨c.1.1, c.1.2, c.2.1, c.2.2⟩, q _ Hb1 H1 g1 itr_range⟩
    · cases e
  · cases e
/-- enumerate -/
def enumD : Nat → List D → List D
  | _, [] => []
  | i, d :: r => .tuple [.int (i : Nat), d] :: enumD (i + 1) r
theorem enumD_len : ∀ {ds : List D} {n : Nat}, (enumD n ds).length = ds.length
  | [], _ => rfl
  | _ :: r, n => congrArg Nat.succ (enumD_len (ds := r))
theorem enumD_get : ∀ {ds : List D} {n i : Nat} {d : D}, ds[i]? = some d → (enumD n ds)[i]? = some (.tuple [.int ((n + i : Nat) : Int), d])
  | [], _, _, _, h => by simp at h
  | x :: r, n, 0, d, h => by simp at h; subst h; rfl
  | x :: r, n, i + 1, d, h => by
    have z := enumD_get (ds := r) (n := n + 1) (i := i) (d := d) (by simpa using h)
    rw [show n + 1 + i = n + (i + 1) by omega] at z
    simpa [enumD] using z
@[simp] def mEnum (a : MA) : MI := fun env => (a env).bind fun xs => match xs.1 with
  | [.d (.list ds)] => some (enumD 0 ds, xs.2)
  | [.new (.lst ds)] => some (enumD 0 ds, xs.2)
  | [.d (.tuple ds)] => some (enumD 0 ds, xs.2)
  | _ => none
def iEnumU (K : Fg) (ta : TA) : TI := fun σ H R => iEnum K ta σ H R ∨ iEnumT K ta σ H R
theorem itr_pair {J : It} {xs : List V} {ds : List D} {G : Hp → Prop} (w : Walk J xs.length G (YPair (fun i => some (.int (i : Nat))) (fun i => xs[i]?))) (hG : ∀ H, Ex Hb H → G H) (t : DpAll Z.K Hb xs ds) : ItR Z J (enumD 0 ds) Hb := by
  refine ⟨G, YPair (fun i => some (.int (i : Nat))) (fun i => xs[i]?), ?_, hG, fun i Hb1 H x H' hi e1 e2 y => ?_⟩
  · rw [enumD_len, ← DpAll.length t]; exact w
  · obtain ⟨T, u, v, rfl, hT, rfl, hu, hv⟩ := y
    rw [enumD_len] at hi
    have hd := List.getElem?_eq_getElem hi
    obtain ⟨v', h1, h2⟩ := DpAll.get t hd
    have hv' : xs[i]? = some v := hv
    rw [hv'] at h1
    cases h1
    cases hu
    have z := enumD_get (n := 0) hd
    rw [Nat.zero_add] at z
    exact ⟨upd Hb1 T _, _, Nx.new e2 hT, z, .tup (.inl (.of upd_same)) (.cons (.int _) (.cons (Dp.ex (e1.trans (Ex.new (e2.free hT))) h2) .nil)) fun z => by simp [isS] at z⟩
theorem ri_enum {a : MA} {R : It → Hp → Prop} (h : tII Z (mEnum a) σ H R) : iEnumU Z.K (tIA Z a) σ H R := by
  obtain ⟨B, Hb, env, ds, env', st, e, q⟩ := h
  simp only [mEnum, Option.bind_eq_some_iff] at e
  obtain ⟨⟨xs, e1⟩, ha, e⟩ := e
  have go : ∀ (T : List V → Hp → Prop), (∀ vs ps Hb1 H1, Go Z B σ env Hb H e1 Hb1 H1 → VRs Z H Hb1 H1 σ vs xs ps → T vs H1) → tIA Z a σ H T := fun T hT => ⟨B, Hb, env, xs, e1, st, ha, hT⟩
  split at e
  · rename_i x1 ds1 hx
    have hx' : xs = _ := hx
    subst hx'
    cases e
    refine .inl (go _ fun vs ps Hb1 H1 g1 rv => ?_)
    cases rv with
    | d w t => cases t; cases w with
      | lst s t => exact ⟨_, _, rfl, sql_ex g1.st.sub s, q _ Hb1 H1 g1 (itr_pair walk_enum (fun H e => sql_ex e s) t)⟩
  · rename_i x1 ds1 hx
    have hx' : xs = _ := hx
    subst hx'
    cases e
    refine .inl (go _ fun vs ps Hb1 H1 g1 rv => ?_)
    obtain ⟨Hb2, g2, hd⟩ := g1.kn (ds := [.list ds1]) st rv rfl
    obtain ⟨v, rfl, hd2⟩ := dp1 hd
    cases hd2 with
    | lst s t => exact ⟨_, _, rfl, sql_ex g2.st.sub s, q _ Hb2 H1 g2 (itr_pair walk_enum (fun H e => sql_ex e s) t)⟩
  · rename_i x1 ds1 hx
    have hx' : xs = _ := hx
    subst hx'
    cases e
    refine .inr (go _ fun vs ps Hb1 H1 g1 rv => ?_)
    cases rv with
    | d w t => cases t; cases w with
      | tup s t _ => exact ⟨_, _, rfl, sqt_ex g1.st.sub s, q _ Hb1 H1 g1 (itr_pair walk_enumT (fun H e => sqt_ex e s) t)⟩
  · cases e
/-! {k: v for tg in it if c} -/
def putD (kvs : List (Key × D)) (k : Key) (v : D) : List (Key × D) :=
  if (kvs.any fun kv => decide (kv.1 = k)) = true then kvs.map (fun kv => if kv.1 = k then (kv.1, v) else kv) else kvs ++ [(k, v)]
def compDL (own : List Nat) (g : MG) (c : MT) (ek ev : ME) : List D → Env → List (Key × D) → Option (List (Key × D) × Env)
  | [], e, acc => some (acc, e)
  | x :: r, e, acc => (g (.d x) e).bind fun e1 => (c e1).bind fun b => if b.1 = true then (ek b.2).bind fun y => (fz y.1).bind fun kd => (keyOf kd).bind fun k => (ev y.2).bind fun z => (fz z.1).bind fun d =>
      if acc.length < 100000 then compDL own g c ek ev r (wipeE z.2 own) (putD acc k d) else none else compDL own g c ek ev r (wipeE b.2 own) acc
def mDComp (own : List Nat) (g : MG) (it : MI) (c : MT) (ek ev : ME) : ME := fun env => (it env).bind fun x => (compDL own g c ek ev x.1 (wipeE x.2 own) []).bind fun z => some (.new (.dic z.1), restE x.2 z.2 own)
theorem putK_map {us : List (Key × V)} {kvs : List (Key × D)} {k : Key} {v : V} {d : D} {K : Fg} (h1 : us.map (·.1) = kvs.map (·.1)) (h2 : DpAll K Hb (us.map (·.2)) (kvs.map (·.2))) (h3 : Dp K Hb v d) :
    (putK us k v).map (·.1) = (putD kvs k d).map (·.1) ∧ DpAll K Hb ((putK us k v).map (·.2)) ((putD kvs k d).map (·.2)) := by
  have hany : ∀ {us : List (Key × V)} {kvs : List (Key × D)}, us.map (·.1) = kvs.map (·.1) → (us.any fun kv => decide (kv.1 = k)) = kvs.any fun kv => decide (kv.1 = k) := by
    intro us
    induction us with
    | nil => intro kvs h; cases kvs with
      | nil => rfl
      | cons _ _ => cases h
    | cons u us ih => intro kvs h; cases kvs with
      | nil => cases h
      | cons w kvs => simp only [List.map_cons, List.cons.injEq] at h; rw [List.any_cons, List.any_cons, h.1, ih h.2]
  unfold putK putD
  rw [hany h1]
  by_cases c : (kvs.any fun kv => decide (kv.1 = k)) = true
  · rw [if_pos c, if_pos c]
    clear c hany
    induction us generalizing kvs with
    | nil => cases kvs with
      | nil => exact ⟨rfl, .nil⟩
      | cons _ _ => cases h1
    | cons u us ih => cases kvs with
      | nil => cases h1
      | cons w kvs =>
        simp only [List.map_cons, List.cons.injEq] at h1
        cases h2 with
        | cons a b =>
          obtain ⟨i1, i2⟩ := ih h1.2 b
          simp only [List.map_cons]
          rw [i1, h1.1]
          by_cases z : w.1 = k
          · rw [if_pos z, if_pos z]; exact ⟨rfl, .cons h3 i2⟩
          · rw [if_neg z, if_neg z]; exact ⟨by rw [h1.1], .cons a i2⟩
  · rw [if_neg c, if_neg c, List.map_append, List.map_append, List.map_append, List.map_append, h1]
    exact ⟨rfl, DpAll.append h2 (.cons h3 .nil)⟩
end
end Ol
set_option Elab.async false
set_option linter.all false
set_option maxRecDepth 100000
set_option maxHeartbeats 4000000
/-! own: dict comprehensions -/
namespace Ol
open PySem PySem.Spec PyProof.Rows L2
section
variable {Z : Zn} {H : Hp} {σ : L2.St}
theorem dc_it {J : It} {n : Nat} {G : Hp → Prop} {Y : Nat → Hp → V → Hp → Prop} (w : Walk J n G Y) {g : TG} {tt : TT} {tk tv : TE} {vs : List Nat} {σ : L2.St} {H1 : Hp} {D : Addr} {Qd : Hp → Prop} (Pv : Nat → Hp → Prop) (h0 : Pv 0 (upd H1 D (.dK []))) (hG : ∀ i H, i ≤ n → Pv i H → G H)
    (hs : ∀ i x H H', i < n → Pv i H → Y i H x H' → g x (wipe σ vs) H' fun σ2 H2 => wipe σ2 vs = wipe σ vs ∧ tt σ2 H2 fun b H3 =>
      if b = true then tk σ2 H3 fun y H4 => tv σ2 H4 fun z H5 => ∃ kvs k, y = kV k ∧ H5 D = some (.dK kvs) ∧ kvs.length < sizeLine ∧ Pv (i + 1) (upd H5 D (.dK (putK kvs k z))) else Pv (i + 1) H3) (hd : ∀ H, Pv n H → Qd H) :
    ∃ W : Nat → Nat → Hp → Prop, (∃ m, W 0 m (upd H1 D (.dK []))) ∧ ∀ i m H, W i m H →
      (J.stop i H ∧ Qd H) ∨ (J.go i H ∧ ∃ Nx : Hp → Prop, (∀ H', Nx H' → ∃ m', m' < m ∧ W (i + 1) m' H') ∧ ∀ x H', J.yld i H x H' → g x (wipe σ vs) H' fun σ2 H2 => wipe σ2 vs = wipe σ vs ∧ tt σ2 H2 fun b H3 =>
        if b = true then tk σ2 H3 fun y H4 => tv σ2 H4 fun z H5 => ∃ kvs k, y = kV k ∧ H5 D = some (.dK kvs) ∧ kvs.length < sizeLine ∧ Nx (upd H5 D (.dK (putK kvs k z))) else Nx H3) := by
  refine ⟨fun i m H => m = n - i ∧ i ≤ n ∧ Pv i H, ⟨n, by simp, Nat.zero_le _, h0⟩, ?_⟩
  rintro i m H ⟨rfl, hi, p⟩
  have q := hG i H hi p
  by_cases hlt : i < n
  · exact .inr ⟨w.goes i H hlt q, Pv (i + 1), fun H' p' => ⟨n - (i + 1), by omega, rfl, hlt, p'⟩, fun x H' y => hs i x H H' hlt p (w.yields i H x H' hlt q y)⟩
  · have e : i = n := by omega
    subst e
    exact .inl ⟨w.stops H q, hd H p⟩
theorem fz_knownD {B : Bs} {Hb Hb1 H1 : Hp} {env env1 : Env} {v : V} {x : PV} {d : D} {DD : Addr} (st : Sta Z B Hb H σ env) (g : Go Z B σ env Hb H env1 Hb1 H1) (rv : VR Z H Hb1 H1 σ v x) (f : fz x = some d) (hD : H DD ≠ none) (hn : Hb1 DD = none) :
    ∃ Hb2, Go Z B σ env Hb H env1 Hb2 H1 ∧ Hb2 DD = none ∧ Dp Z.K Hb2 v d := by
  cases rv with
  | d a => cases f; exact ⟨Hb1, g, hn, a⟩
  | new a b1 c =>
    rename_i p o
    cases c with
    | lst y1 y2 =>
      cases f
      refine ⟨_, g.know st ⟨Ex.new b1, upd_ex g.st.sub y1, fun y w1 w2 => ?_⟩, ?_, .lst (.inl (.of upd_same)) (DpAll.ex (Ex.new b1) y2)⟩
      · rw [upd_ne (fun w => w1 (by rw [w]; exact a))]
        exact w2
      · rw [upd_ne (fun w => hD (by rw [w]; exact a))]
        exact hn
    | set _ => cases f
    | dic _ _ _ => cases f
    | dit _ _ => cases f
  | slot a => cases f
  | tup a t => cases f
theorem re_dcomp {own : List Nat} {g : MG} {is : List Nat} {it : MI} {c : MT} {ek ev : ME} {Q : VK} (hi : ∀ i ∈ is, i ∈ own) (h : tI Z (mDComp own g it c ek ev) σ H Q) : tDc (tII Z it) (tG Z is g) (tIT Z c) (tI Z ek) (tI Z ev) own σ H Q := by
  obtain ⟨B, Hb, env, pv, env', st, e, q⟩ := h
  simp only [mDComp, Option.bind_eq_some_iff] at e
  obtain ⟨⟨ds, e1⟩, ha, ⟨res, ez⟩, h2, h3⟩ := e
  cases h3
  refine ⟨B, Hb, env, ds, e1, st, ha, fun J Hk H1 g1 w => ?_⟩
  intro D hD
  obtain ⟨G, Y, wk, hG, hY⟩ := w
  have stW := g1.st.wipe own
  have hDb : Hk D = none := g1.st.sub.free hD
  have hD0 : B.H0 D = none := g1.st.h0 D hD
  have nOw : ¬ Ow (wipeE e1 own) (L2.wipe σ own) D := fun z => own_some stW D z hD
  refine dc_it wk (fun i H => ∃ Hb env acc xs, Go Z B (L2.wipe σ own) (wipeE e1 own) Hk H1 env Hb H ∧ H D = some (.dK xs) ∧ Hb D = none ∧ (xs.map (·.1) = acc.map (·.1) ∧ DpAll Z.K Hb (xs.map (·.2)) (acc.map (·.2))) ∧ compDL own g c ek ev (ds.drop i) env acc = some (res, ez))
    ⟨Hk, wipeE e1 own, [], [], ⟨(Ny.refl g1.st.sub).upd hD hDb, stW.updN hD0 hDb nOw, fun _ z => z⟩, upd_same, hDb, ⟨rfl, .nil⟩, by simpa using h2⟩
    (fun i H hi ⟨Hb, env, acc, xs, s, _⟩ => hG H (s.ny.kb.trans s.st.sub)) (fun i x H2 H3 hlt ⟨Hb2, env2, acc, xs, s2, c1, c2, c3, hf⟩ y => ?_) (fun H2 ⟨Hb2, env2, acc, xs, s2, c1, c2, c3, hf⟩ => ?_)
  · obtain ⟨Hb3, d, n, hd, hx⟩ := hY i Hb2 H2 x H3 hlt s2.ny.kb s2.st.sub y
    rw [drop_cons hlt] at hf
    have ed : ds[i] = d := by
      have z := List.getElem?_eq_getElem hlt
      rw [hd] at z
      exact (Option.some.inj z).symm
    rw [ed] at hf
    simp only [compDL, Option.bind_eq_some_iff] at hf
    obtain ⟨e3, h3, ⟨b, e4⟩, h4, h5⟩ := hf
    have s3 := s2.nx n
    have d3 : H3 D = some (.dK xs) := n.kh D _ id c1
    have nb3 : Hb3 D = none := n.fr D (by rw [c1]; simp) c2
    have nOw2 : ∀ p, Ow env2 (L2.wipe σ own) p → p ≠ D := fun p hp z => nOw (z ▸ s2.ow p hp)
    refine ⟨B, Hb3, H3, env2, .d d, e3, s3.st, own_some s3.st, s3.st.h0, .d hx, h3, fun σ' s4 hwp how => ?_⟩
    have hw := hwp own hi
    rw [wipe_wipe] at hw
    refine ⟨hw, B, Hb3, e3, b, e4, s4, h4, fun Hb5 H5 g5 => ?_⟩
    have ow4 : ∀ p, Ow e3 σ' p → p ≠ D := fun p hp z => by
      rcases how p hp with w | w
      · exact nOw2 p w z
      · rw [z, d3] at w; cases w
    have d5 : H5 D = some (.dK xs) := g5.ny.kh D _ (fun z => ow4 D z rfl) d3
    have nb5 : Hb5 D = none := g5.ny.fr D (by rw [d3]; simp) nb3
    have close : ∀ {Hb6 H6 : Hp} {e6 : Env}, Go Z B σ' e3 Hb3 H3 e6 Hb6 H6 → Go Z B (L2.wipe σ own) (wipeE e1 own) Hk H1 (wipeE e6 own) Hb6 H6 := fun {Hb6 H6 e6} g6 => by
      have k : ∀ p, Ow (wipeE e6 own) (L2.wipe σ own) p → Ow env2 (L2.wipe σ own) p := fun p ⟨j, bb, oo, z1, z2⟩ => by
        obtain ⟨z3, z4⟩ := wipeE_some z1
        have z5 : σ'[j]? = some (some (.ref p)) := by
          rw [wipe_out z4] at z2
          have z6 : (L2.wipe σ' own)[j]? = (L2.wipe σ own)[j]? := by rw [hw]
          rw [wipe_out z4, wipe_out z4] at z6
          rw [z6]
          exact z2
        have z7 := g6.ow p ⟨j, bb, oo, z3, z5⟩
        rcases how p z7 with w | w
        · exact w
        · exact absurd w (own_some s4 p z7)
      refine ⟨?_, ?_, fun p hp => s3.ow p (k p hp)⟩
      · have t : Ny (Ow (wipeE e1 own) (L2.wipe σ own)) Hb3 H3 Hb6 H6 := g6.ny.mono fun p hp => by
          rcases how p hp with w | w
          · exact s3.ow p w
          · exact absurd w (own_some s4 p hp)
        exact s3.ny.trans t
      · have z := g6.st.wipe own
        rw [hw] at z
        exact z
    cases b with
    | false =>
      simp only [Bool.false_eq_true, if_false] at h5 ⊢
      exact ⟨Hb5, _, acc, xs, close g5, d5, nb5, ⟨c3.1, DpAll.ex (n.kb.trans g5.ny.kb) c3.2⟩, h5⟩
    | true =>
      simp only [if_true, Option.bind_eq_some_iff] at h5 ⊢
      obtain ⟨⟨y0, e5⟩, h6, kd, h7, k, h8, ⟨z0, e6⟩, h9, d', h10, h11⟩ := h5
      refine ⟨B, Hb5, e4, y0, e5, g5.st, h6, fun v Hb6 H6 g6 rv => ?_⟩
      have ow5 : ∀ p, Ow e4 σ' p → p ≠ D := fun p hp => ow4 p (g5.ow p hp)
      have d6 : H6 D = some (.dK xs) := g6.ny.kh D _ (fun z => ow5 D z rfl) d5
      have nb6 : Hb6 D = none := g6.ny.fr D (by rw [d5]; simp) nb5
      obtain ⟨Hb7, g7, nb7, dk⟩ := fz_knownD (DD := D) g5.st g6 rv h7 (by rw [d5]; simp) nb6
      have ow6 : ∀ p, Ow e5 σ' p → p ≠ D := fun p hp => ow5 p (g6.ow p hp)
      refine ⟨B, Hb7, e5, z0, e6, g7.st, h9, fun z Hb8 H8 g8 rz => ?_⟩
      have d8 : H8 D = some (.dK xs) := g8.ny.kh D _ (fun z => ow6 D z rfl) d6
      have nb8 : Hb8 D = none := g8.ny.fr D (by rw [d6]; simp) nb7
      obtain ⟨Hb9, g9, nb9, dv⟩ := fz_knownD (DD := D) g7.st g8 rz h10 (by rw [d6]; simp) nb8
      split at h11
      · rename_i hz
        have hxs : xs.length = acc.length := by
          have z := congrArg List.length c3.1
          simpa using z
        refine ⟨xs, k, keyOf_v dk h8, d8, Nat.lt_of_lt_of_le (by rw [hxs]; exact hz) (by decide), ?_⟩
        have gg := (g5.trans g7).trans g9
        have gc := close gg
        have c4 := putK_map (k := k) c3.1 (DpAll.ex (n.kb.trans gg.ny.kb) c3.2) dv
        exact ⟨Hb9, _, putD acc k d', putK xs k z, ⟨gc.ny.upd hD nb9, gc.st.updN hD0 nb9 fun z => nOw (gc.ow D z), gc.ow⟩, upd_same, nb9, c4, h11⟩
      · cases h11
  · rw [List.drop_eq_nil_of_le (Nat.le_refl _)] at hf
    cases hf
    exact q (.ref D) Hb2 H2 (g1.trans (s2.rest g1.st)) (.new (g1.ny.back D hD) c2 (.dic c1 c3.1 c3.2))
end
end Ol
set_option Elab.async false
set_option linter.all false
set_option maxRecDepth 100000
set_option maxHeartbeats 4000000
/-! own: the rules, one for each form of the text -/
namespace Ol
open PySem PySem.Spec PyProof.Rows L2
theorem tI_mono {Z : Zn} {m : ME} {σ : L2.St} {H : Hp} {Q Q' : VK} (h : tI Z m σ H Q) (w : ∀ v H', Q v H' → Q' v H') : tI Z m σ H Q' := by
  obtain ⟨B, Hb, env, pv, env', st, e, q⟩ := h
  exact ⟨B, Hb, env, pv, env', st, e, fun v Hb' H' g r => w v H' (q v Hb' H' g r)⟩
theorem tIA_mono {Z : Zn} {m : MA} {σ : L2.St} {H : Hp} {Q Q' : List V → Hp → Prop} (h : tIA Z m σ H Q) (w : ∀ v H', Q v H' → Q' v H') : tIA Z m σ H Q' := by
  obtain ⟨B, Hb, env, pv, env', st, e, q⟩ := h
  exact ⟨B, Hb, env, pv, env', st, e, fun v ps Hb' H' g r => w v H' (q v ps Hb' H' g r)⟩
/-- the builtins' names stand as they are -/
structure Gb (mg : Str → Option Value) : Prop where
  len : mg "len" = none
  int : mg "int" = none
  abs : mg "abs" = none
  max : mg "max" = none
  min : mg "min" = none
  list : mg "list" = none
  tuple : mg "tuple" = none
  set : mg "set" = none
  all : mg "all" = none
  any : mg "any" = none
  sum : mg "sum" = none
  sorted : mg "sorted" = none
  isi : mg "isinstance" = none
  range : mg "range" = none
  enumerate : mg "enumerate" = none
  zip : mg "zip" = none
  str : mg "str" = none
  bool : mg "bool" = none
  dict : mg "dict" = none
  repr : mg "repr" = none
/-- a function of the module: its name stands for it, and it keeps its promise -/
structure Fok (Z : Zn) (mg : Str → Option Value) (base : Heap) (k : Nat) (x : Str) (F : Fn) : Prop where
  ex : ∃ (f : Addr) (fd : FuncData) (ps : List Str), FnOk Z.P Z.w Z.K mg base L2.CX0 k f fd ps (spI Z F) ∧ mg x = some (.ref f) ∧ PySem.W.keepIn Z.K (.ref f) = true ∧ Binds Z.K fd ps []
section
variable {X : Cx} {a b c : Expr} {es rest : List Expr} {x : Str} {pos p p1 p2 px py apos cpos : Pos} {i j k : Nat} {ma mb mc : ME} {mt mu : MT} {mas : MA} {j1 : Nat}
theorem iE_var (hN : X.N[i]? = some x) (hv : Vis X.env.scope x) (hd : (x == ("__debug__" : Str)) = false := by decide) (hcd : (x == ("__classdict__" : Str)) = false := by decide) : PE X (.Name x pos) (tI (zn X) (mVar i)) := pe_mono (pe_var hN hv hd hcd) fun σ H Q => re_var
theorem iE_int {i : Int} {j} : PE X (.Constant (.int i) j pos) (tI (zn X) (mC (.int i))) := pe_mono pe_int fun σ H Q => re_c fun Hb => .int i
theorem iE_str {z : Str} {j} : PE X (.Constant (.str z) j pos) (tI (zn X) (mC (.str z))) := pe_mono pe_str fun σ H Q => re_c fun Hb => .str z
theorem iE_bl {z : Bool} {j} : PE X (.Constant (.bool z) j pos) (tI (zn X) (mC (.bool z))) := pe_mono pe_bl fun σ H Q => re_c fun Hb => .bl z
theorem iE_non {j} : PE X (.Constant .none j pos) (tI (zn X) (mC .none)) := pe_mono pe_non fun σ H Q => re_c fun Hb => .non
theorem iE_gs {z : Str} (hg : Gl X x) (hm : ∃ t, X.mg x = some (.str z t)) (hd : (x == ("__debug__" : Str)) = false := by decide) : PE X (.Name x pos) (tI (zn X) (mC (.str z))) := by
  obtain ⟨t, hm⟩ := hm
  exact pe_mono (pe_glob (v := .str z) hg hm ⟨t, rfl⟩ hd) fun σ H Q => re_c fun Hb => .str z
theorem iE_gi {z : Int} (hg : Gl X x) (hm : ∃ t, X.mg x = some (.int z t)) (hd : (x == ("__debug__" : Str)) = false := by decide) : PE X (.Name x pos) (tI (zn X) (mC (.int z))) := by
  obtain ⟨t, hm⟩ := hm
  exact pe_mono (pe_glob (v := .int z) hg hm ⟨t, rfl⟩ hd) fun σ H Q => re_c fun Hb => .int z
theorem iE_bin {op : Operator} {r : R2} {f : RV → RV → Option PV} (ho : OpR X (binaryOp op) r) (hs : Op2 (zn X) r f) (ha : PE X a (tI (zn X) ma)) (hb : PE X b (tI (zn X) mb)) : PE X (.BinOp a op b pos) (tI (zn X) (m2 f ma mb)) :=
  pe_mono (pe_op ho ha hb) fun σ H Q => re_m2 hs
theorem iE_add (ha : PE X a (tI (zn X) ma)) (hb : PE X b (tI (zn X) mb)) : PE X (.BinOp a .Add b pos) (tI (zn X) (m2 oAdd ma mb)) := iE_bin op_addU s_add ha hb
theorem iE_sub (ha : PE X a (tI (zn X) ma)) (hb : PE X b (tI (zn X) mb)) : PE X (.BinOp a .Sub b pos) (tI (zn X) (m2 oSub ma mb)) := iE_bin op_sub s_sub ha hb
theorem iE_mul (ha : PE X a (tI (zn X) ma)) (hb : PE X b (tI (zn X) mb)) : PE X (.BinOp a .Mult b pos) (tI (zn X) (m2 oMul ma mb)) := iE_bin op_mulW s_mul ha hb
theorem iE_div (ha : PE X a (tI (zn X) ma)) (hb : PE X b (tI (zn X) mb)) : PE X (.BinOp a .FloorDiv b pos) (tI (zn X) (m2 oDiv ma mb)) := iE_bin op_fdiv s_div ha hb
theorem iE_mod (ha : PE X a (tI (zn X) ma)) (hb : PE X b (tI (zn X) mb)) : PE X (.BinOp a .Mod b pos) (tI (zn X) (m2 oMod ma mb)) := iE_bin op_mod s_mod ha hb
theorem iE_pow (ha : PE X a (tI (zn X) ma)) (hb : PE X b (tI (zn X) mb)) : PE X (.BinOp a .Pow b pos) (tI (zn X) (m2 oPow ma mb)) := iE_bin op_powW s_pow ha hb
theorem iE_neg (ha : PE X a (tI (zn X) ma)) : PE X (.UnaryOp .USub a pos) (tI (zn X) (m1 oNeg ma)) := pe_mono (pe_un un_neg ha) fun σ H Q => re_m1 s_neg
theorem iE_cmp {op : CmpOp} {r : R2} {f : RV → RV → Option PV} (ho : OpR X (compareOp op) r) (hs : Op2 (zn X) r f) (ha : PE X a (tI (zn X) ma)) (hb : PE X b (tI (zn X) mb)) (hm : behindInMarks op b = false) : PE X (.Compare a [op] [b] pos) (tI (zn X) (m2 f ma mb)) :=
  pe_mono (pe_cmpR ho ha hb hm) fun σ H Q => re_m2 hs
theorem iT_cmp {op : CmpOp} {r : R2} {f : RV → RV → Option PV} (ho : OpR X (compareOp op) r) (hs : Op2 (zn X) r f) (ha : PE X a (tI (zn X) ma)) (hb : PE X b (tI (zn X) mb)) (hm : behindInMarks op b = false) : PT X (.Compare a [op] [b] pos) (tIT (zn X) (mTest (m2 f ma mb))) :=
  pt_mono (pt_cmpR ho ha hb hm) fun σ H Q h => re_m2 hs (re_test h)
theorem iE_chain {op op' : CmpOp} {r r' : R2} {f g : RV → RV → Option PV} (ho : OpR X (compareOp op) r) (hs : Op2 (zn X) r f) (ho' : OpR X (compareOp op') r') (hs' : Op2 (zn X) r' g) (ha : PE X a (tI (zn X) ma)) (hb : PE X b (tI (zn X) mb)) (hc : PE X c (tI (zn X) mc))
    (hm : lastMarks [op, op'] [b, c] = false := by with_unfolding_all rfl) : PE X (.Compare a [op, op'] [b, c] pos) (tI (zn X) (mChain f g ma mb mc)) := pe_mono (pe_chain ho ho' ha hb hc hm) fun σ H Q => re_chain hs hs'
theorem iT_chain {op op' : CmpOp} {r r' : R2} {f g : RV → RV → Option PV} (ho : OpR X (compareOp op) r) (hs : Op2 (zn X) r f) (ho' : OpR X (compareOp op') r') (hs' : Op2 (zn X) r' g) (ha : PE X a (tI (zn X) ma)) (hb : PE X b (tI (zn X) mb)) (hc : PE X c (tI (zn X) mc))
    (hm : lastMarks [op, op'] [b, c] = false := by with_unfolding_all rfl) : PT X (.Compare a [op, op'] [b, c] pos) (tIT (zn X) (mTest (mChain f g ma mb mc))) := pt_mono (pt_chain ho ho' ha hb hc hm) fun σ H Q h => re_chain hs hs' (re_test h)
theorem iE_and (ha : PE X a (tI (zn X) ma)) (hb : PE X (.BoolOp .And (b :: rest) pos) (tI (zn X) mb)) : PE X (.BoolOp .And (a :: b :: rest) pos) (tI (zn X) (mAnd ma mb)) := pe_mono (pe_and ha hb) fun σ H Q => re_and
theorem iE_or (ha : PE X a (tI (zn X) ma)) (hb : PE X (.BoolOp .Or (b :: rest) pos) (tI (zn X) mb)) : PE X (.BoolOp .Or (a :: b :: rest) pos) (tI (zn X) (mOr ma mb)) := pe_mono (pe_or ha hb) fun σ H Q => re_or
theorem iE_one {op} (ha : PE X a (tI (zn X) ma)) : PE X (.BoolOp op [a] pos) (tI (zn X) ma) := pe_one ha
theorem iE_not (ha : PE X a (tI (zn X) ma)) : PE X (.UnaryOp .Not a pos) (tI (zn X) (mNot ma)) := pe_mono (pe_not ha) fun σ H Q => re_not
theorem iE_if (hc : PT X c (tIT (zn X) mt)) (ha : PE X a (tI (zn X) ma)) (hb : PE X b (tI (zn X) mb)) : PE X (.IfExp c a b pos) (tI (zn X) (mIf mt ma mb)) := pe_mono (pe_ifExp hc ha hb) fun σ H Q => re_if
theorem iW_and1 (ha : PT X a (tIT (zn X) mt)) : PW X (.BoolOp .And [a] pos) (tIT (zn X) mt) := pw_and1 ha
theorem iW_or1 (ha : PT X a (tIT (zn X) mt)) : PW X (.BoolOp .Or [a] pos) (tIT (zn X) mt) := pw_or1 ha
theorem iW_and (ha : PT X a (tIT (zn X) mt)) (hb : PW X (.BoolOp .And (b :: rest) pos) (tIT (zn X) mu)) : PW X (.BoolOp .And (a :: b :: rest) pos) (tIT (zn X) (mAndT mt mu)) := pw_mono (pw_and ha hb) fun σ H Q => re_andT
theorem iW_or (ha : PT X a (tIT (zn X) mt)) (hb : PW X (.BoolOp .Or (b :: rest) pos) (tIT (zn X) mu)) : PW X (.BoolOp .Or (a :: b :: rest) pos) (tIT (zn X) (mOrT mt mu)) := pw_mono (pw_or ha hb) fun σ H Q => re_orT
theorem iT_w (h : PW X a (tIT (zn X) mt)) : PT X a (tIT (zn X) mt) := h.pt
theorem iT_not (ha : PT X a (tIT (zn X) mt)) : PT X (.UnaryOp .Not a pos) (tIT (zn X) (mNotT mt)) := pt_mono (pt_not ha) fun σ H Q => re_notT
theorem iT_tru (ha : PE X a (tI (zn X) ma)) (he : ∀ whole, isTrue a X.env whole = (do let v ← whole; standAt a.pos; holding [v] (truthy v)) := by intro _; rfl) : PT X a (tIT (zn X) (mTru ma)) := pt_mono (pt_truth ha he) fun σ H Q => re_tru
theorem iA_nil : PA X [] (tIA (zn X) mNil) := pa_mono pa_nil fun σ H Q => re_nil
theorem iA_cons (ha : PE X a (tI (zn X) ma)) (hr : PA X es (tIA (zn X) mas)) (hs : starEach (a :: es) X.env = (false, eval a X.env) :: starEach es X.env := by rfl) : PA X (a :: es) (tIA (zn X) (mCons ma mas)) := pa_mono (pa_cons ha hr hs) fun σ H Q => re_cons
theorem iE_tup {k} (h : PA X es (tIA (zn X) mas)) : PE X (.Tuple es k pos) (tI (zn X) (mTup mas)) := pe_mono (pe_tupN h) fun σ H Q => re_tup
theorem iE_lst (h : PA X es (tIA (zn X) mas)) : PE X (.List es pos) (tI (zn X) (mLst mas)) := pe_mono (pe_lst h) fun σ H Q => re_lst
theorem iE_ix (ha : PE X a (tI (zn X) ma)) (hb : PE X b (tI (zn X) mb)) (hs : PlainIx b := by intro _ _; rfl) : PE X (.Subscript a b pos) (tI (zn X) (m2 oIx ma mb)) := pe_mono (pe_ix ix_seq ha hb hs) fun σ H Q => re_m2 s_ix
theorem iO_none : PO X none (tIO (zn X) mNoP) := ⟨fun pins s σ H Q I h => po_none.run pins s σ H Q I (re_noP h)⟩
theorem iO_some (h : PE X a (tI (zn X) ma)) : PO X (some a) (tIO (zn X) (mP ma)) := ⟨fun pins s σ H Q I q => (po_some h).run pins s σ H Q I (re_P q)⟩
theorem iE_sl {lo hi : Option Expr} {l h : MO} (ha : PE X a (tI (zn X) ma)) (hl : PO X lo (tIO (zn X) l)) (hh : PO X hi (tIO (zn X) h)) : PE X (.Subscript a (.Slice lo hi none p2) pos) (tI (zn X) (mSl ma l h)) := pe_mono (pe_slice sl_U ha hl hh) fun σ H Q => re_sl
/-! built-ins -/
theorem iE_B {id : String} {r : List V → Hp → VK → Prop} {f : List RV → Option PV} (hc : CallR X (.builtin id) r) (hs : OpN (zn X) r f) (hg : Gl X x) (hm : X.mg x = none) (hv : bootBuiltins x = some (.builtin id)) (ha : PA X (a :: es) (tIA (zn X) mas)) (hn : x ≠ "__name__" := by decide) (hdb : (x == ("__debug__" : Str)) = false := by decide)
    (he : starEach (a :: es) X.env = (false, eval a X.env) :: starEach es X.env := by rfl) (hpl : (backTo pos (starEach es X.env)).any (·.1) = false := by rfl) : PE X (.Call (.Name x p) (a :: es) [] pos) (tI (zn X) (mB f mas)) := pe_mono (pe_callB hc hg hm hv ha hn hdb he hpl) fun σ H Q => re_mB hs
theorem iE_Ty {T : String} {r : List V → Hp → VK → Prop} {f : List RV → Option PV} (hc : CallR X (.type T) r) (hs : OpN (zn X) r f) (hg : Gl X x) (hm : X.mg x = none) (hv : bootBuiltins x = some (.type T)) (ha : PA X (a :: es) (tIA (zn X) mas)) (hn : x ≠ "__name__" := by decide) (hdb : (x == ("__debug__" : Str)) = false := by decide)
    (he : starEach (a :: es) X.env = (false, eval a X.env) :: starEach es X.env := by rfl) (hpl : (backTo pos (starEach es X.env)).any (·.1) = false := by rfl) : PE X (.Call (.Name x p) (a :: es) [] pos) (tI (zn X) (mB f mas)) := pe_mono (pe_callTy hc hg hm hv ha hn hdb he hpl) fun σ H Q => re_mB hs
theorem iE_Ty0 {T : String} {r : List V → Hp → VK → Prop} {f : List RV → Option PV} (hc : CallR X (.type T) r) (hs : OpN (zn X) r f) (hg : Gl X x) (hm : X.mg x = none) (hv : bootBuiltins x = some (.type T)) (hn : x ≠ "__name__" := by decide) (hdb : (x == ("__debug__" : Str)) = false := by decide) :
    PE X (.Call (.Name x p) [] [] pos) (tI (zn X) (mB f mNil)) := pe_mono (pe_callTy0 hc hg hm hv hn hdb) fun σ H Q h => by
  have z := re_mB hs h
  exact re_nil z
theorem iE_isi {T : Str} {TT : String} {pT : Pos} (hg : Gl X "isinstance") (hm : X.mg "isinstance" = none) (ha : PE X a (tI (zn X) ma)) (hT : Gl X T) (hmT : X.mg T = none) (hvT : bootBuiltins T = some (.type TT)) (hnT : T ≠ "__name__" := by decide) (hdT : (T == ("__debug__" : Str)) = false := by decide)
    (hs : starEach (a :: [.Name T pT]) X.env = (false, eval a X.env) :: starEach [.Name T pT] X.env := by rfl) : PE X (.Call (.Name "isinstance" p) [a, .Name T pT] [] pos) (tI (zn X) (mIsi ma TT)) :=
  pe_mono (pe_callB call_isi hg hm (by rfl) (pa_cons ha (pa_cons (pe_bltn (v := .ty TT) hT hmT hvT rfl hnT hdT) pa_nil) hs) (by decide) (by decide) hs (by rfl)) fun σ H Q => re_isi
theorem iE_isi2 {T T' : Str} {TT TT' : String} {k} {pT pT' pt : Pos} (hg : Gl X "isinstance") (hm : X.mg "isinstance" = none) (ha : PE X a (tI (zn X) ma)) (hT : Gl X T) (hmT : X.mg T = none) (hvT : bootBuiltins T = some (.type TT)) (hT' : Gl X T') (hmT' : X.mg T' = none) (hvT' : bootBuiltins T' = some (.type TT'))
    (hnT : T ≠ "__name__" := by decide) (hdT : (T == ("__debug__" : Str)) = false := by decide) (hnT' : T' ≠ "__name__" := by decide) (hdT' : (T' == ("__debug__" : Str)) = false := by decide)
    (hs : starEach (a :: [.Tuple [.Name T pT, .Name T' pT'] k pt]) X.env = (false, eval a X.env) :: starEach [.Tuple [.Name T pT, .Name T' pT'] k pt] X.env := by rfl) : PE X (.Call (.Name "isinstance" p) [a, .Tuple [.Name T pT, .Name T' pT'] k pt] [] pos) (tI (zn X) (mIsi2 ma TT TT')) :=
  pe_mono (pe_callB call_isiT hg hm (by rfl) (pa_cons ha (pa_cons (pe_tup (pa_cons (pe_bltn (v := .ty TT) hT hmT hvT rfl hnT hdT) (pa_cons (pe_bltn (v := .ty TT') hT' hmT' hvT' rfl hnT' hdT') pa_nil))) pa_nil) hs) (by decide) (by decide) hs (by rfl)) fun σ H Q => re_isi2
theorem iE_sortedSet (hc : X.calm = true) (hg : Gl X "sorted") (hm : X.mg "sorted" = none) (hg' : Gl X "set") (hm' : X.mg "set" = none) (ha : PE X a (tI (zn X) ma))
    (hs : starEach [a] X.env = (false, eval a X.env) :: starEach [] X.env := by rfl) : PE X (.Call (.Name "sorted" p) [.Call (.Name "set" p1) [a] [] p2] [] pos) (tI (zn X) (mSortedSet ma)) :=
  pe_mono (pe_callB (cr_sortedQ hc) hg hm (by rfl) (pa_cons (pe_callTy (cr_setK hc) hg' hm' (by rfl) (pa_cons ha pa_nil hs) (by decide) (by decide) hs (by rfl)) pa_nil) (by decide) (by decide) (by rfl) (by rfl)) fun σ H Q => re_sortedSet
/-! calls -/
theorem iE_call {F : Fn} {ios : List Bool} (c : Fok (zn X) X.mg X.base k x F) (hr : Room j X.A) (hk : k ≤ j) (hg : Gl X x) (ha : PA X (a :: es) (tIA (zn X) mas)) (hdb : (x == ("__debug__" : Str)) = false := by decide)
    (he : starEach (a :: es) X.env = (false, eval a X.env) :: starEach es X.env := by rfl) (hpl : (backTo pos (starEach es X.env)).any (·.1) = false := by rfl) : PE X (.Call (.Name x p) (a :: es) [] pos) (tI (zn X) (mCall ios F mas)) := by
  obtain ⟨f, fd, ps, F', hm, kp, b⟩ := c.ex
  exact pe_mono (pe_call F' (hr.mono hk) hg hm kp b .nil L2.pass0 ha hdb he hpl) fun σ H Q h => re_call (E := L2.E0) h
/-! methods of lists and sets -/
theorem iE_append {ox : Str} {po : Pos} (ho : PE X (.Name ox po) (tVar i)) (ha : PA X (a :: es) (tIA (zn X) mas))
    (hb : attributeBase (.Name ox po) "append" X.env (eval (.Name ox po) X.env) = eval (.Name ox po) X.env := by rfl) (hf : ((backTo cpos (starEach (a :: es) X.env)).all (fun x => !x.1) && (backToKw cpos (keywordEach [] X.env)).all (fun x => x.1.isSome)
      && decide ((a :: es).length + ([] : List Keyword).length + (if ([] : List Keyword).isEmpty then 0 else 1) < 30)) = true := by rfl) (hl : (apos.endLine == cpos.line) = true := by rfl) (hs : starEach (a :: es) X.env = (false, eval a X.env) :: starEach es X.env := by rfl) (hp : (backTo cpos (starEach es X.env)).any (·.1) = false := by rfl) :
    PE X (.Call (.Attribute (.Name ox po) "append" apos) (a :: es) [] cpos) (tI (zn X) (mMeth 0 i fAppend mas)) := pe_mono (pe_bm PySem.F.plainAttrs_list PySem.F.slot_list_append PySem.F.type_list_append mt_append ho ha hb hf hl hs hp) fun σ H Q => re_methL rfl m_append
theorem iE_popAt {ox : Str} {po : Pos} (ho : PE X (.Name ox po) (tVar i)) (ha : PA X (a :: es) (tIA (zn X) mas))
    (hb : attributeBase (.Name ox po) "pop" X.env (eval (.Name ox po) X.env) = eval (.Name ox po) X.env := by rfl) (hf : ((backTo cpos (starEach (a :: es) X.env)).all (fun x => !x.1) && (backToKw cpos (keywordEach [] X.env)).all (fun x => x.1.isSome)
      && decide ((a :: es).length + ([] : List Keyword).length + (if ([] : List Keyword).isEmpty then 0 else 1) < 30)) = true := by rfl) (hl : (apos.endLine == cpos.line) = true := by rfl) (hs : starEach (a :: es) X.env = (false, eval a X.env) :: starEach es X.env := by rfl) (hp : (backTo cpos (starEach es X.env)).any (·.1) = false := by rfl) :
    PE X (.Call (.Attribute (.Name ox po) "pop" apos) (a :: es) [] cpos) (tI (zn X) (mMeth 0 i fPopAt mas)) := pe_mono (pe_bm PySem.F.plainAttrs_list PySem.F.slot_list_pop PySem.F.type_list_pop mt_popAt ho ha hb hf hl hs hp) fun σ H Q => re_methL rfl m_popAt
theorem iE_pop {ox : Str} {po : Pos} (ho : PE X (.Name ox po) (tVar i))
    (hb : attributeBase (.Name ox po) "pop" X.env (eval (.Name ox po) X.env) = eval (.Name ox po) X.env := by rfl) (hl : (apos.endLine == cpos.line) = true := by rfl) :
    PE X (.Call (.Attribute (.Name ox po) "pop" apos) [] [] cpos) (tI (zn X) (mMeth 0 i fPop mNil)) := pe_mono (pe_bm0 PySem.F.plainAttrs_list PySem.F.slot_list_pop PySem.F.type_list_pop mt_pop ho hb hl) fun σ H Q => re_methL0 rfl m_pop
theorem iE_clear {ox : Str} {po : Pos} (ho : PE X (.Name ox po) (tVar i))
    (hb : attributeBase (.Name ox po) "clear" X.env (eval (.Name ox po) X.env) = eval (.Name ox po) X.env := by rfl) (hl : (apos.endLine == cpos.line) = true := by rfl) :
    PE X (.Call (.Attribute (.Name ox po) "clear" apos) [] [] cpos) (tI (zn X) (mMeth 0 i fClear mNil)) := pe_mono (pe_bm0 PySem.F.plainAttrs_list PySem.F.slot_list_clear PySem.F.type_list_clear mt_clear ho hb hl) fun σ H Q => re_methL0 rfl m_clear
theorem iE_sadd {ox : Str} {po : Pos} (ho : PE X (.Name ox po) (tVar i)) (ha : PA X (a :: es) (tIA (zn X) mas))
    (hb : attributeBase (.Name ox po) "add" X.env (eval (.Name ox po) X.env) = eval (.Name ox po) X.env := by rfl) (hf : ((backTo cpos (starEach (a :: es) X.env)).all (fun x => !x.1) && (backToKw cpos (keywordEach [] X.env)).all (fun x => x.1.isSome)
      && decide ((a :: es).length + ([] : List Keyword).length + (if ([] : List Keyword).isEmpty then 0 else 1) < 30)) = true := by rfl) (hl : (apos.endLine == cpos.line) = true := by rfl) (hs : starEach (a :: es) X.env = (false, eval a X.env) :: starEach es X.env := by rfl) (hp : (backTo cpos (starEach es X.env)).any (·.1) = false := by rfl) :
    PE X (.Call (.Attribute (.Name ox po) "add" apos) (a :: es) [] cpos) (tI (zn X) (mMeth 1 i fAdd mas)) := pe_mono (pe_saddK ho ha hb hf hl hs hp) fun σ H Q => re_saddK m_add
/-! targets, what is walked, comprehensions -/
variable {g : MG} {is : List Nat} {mi : MI} {tg iter elt : Expr} {ifs : List Expr} {scope : Scope} {own : List (Str × Nat)}
theorem iG_name (hN : X.N.Nodup) (hi : X.N[i]? = some x) (hx : Loc X.env.scope x) (hf : X.fn x = true ∨ X.env.scope.names.lookup x = some .local := by first | exact .inl rfl | exact .inr rfl) : PG X (.Name x pos) (tG (zn X) [i] (store i)) :=
  ⟨fun pins s σ H v u Q I r h => (pg_name hN hi hx hf).run pins s σ H v u Q I r (rg_name h)⟩
theorem iGs_nil : PGs X [] (gNames []) := pgs_nil
theorem iGs_cons (hN : X.N.Nodup) (hi : X.N[i]? = some x) (hx : Loc X.env.scope x) (hr : PGs X es (gNames is)) (hf : X.fn x = true ∨ X.env.scope.names.lookup x = some .local := by first | exact .inl rfl | exact .inr rfl)
    (hs : (assignEach (.Name x pos :: es) X.env).map (·.2) = assign (.Name x pos) X.env :: (assignEach es X.env).map (·.2) := by rfl) : PGs X (.Name x pos :: es) (gNames (i :: is)) := pgs_cons (pg_name hN hi hx hf) hr hs
theorem iG_tup {k : Nat} (hc : X.calm = true) (h : PGs X es (gNames is)) (hn : (assignEach es X.env).length = is.length := by rfl) (hst : (assignEach es X.env).findIdx? (·.1) = none := by rfl) : PG X (.Tuple es k pos) (tG (zn X) is (mNames is)) :=
  ⟨fun pins s σ H v u Q I r q => (pg_tup hc h hn hst).run pins s σ H v u Q I r (rg_names q)⟩
theorem iI_U (h : PE X a (tI (zn X) ma)) : PI X tg a (tII (zn X) (mIter ma)) := ⟨fun pins s σ H R I q => (pi_U h).run pins s σ H R I (ri_iter q)⟩
theorem iI_range1 (hg : Gl X "range") (hm : X.mg "range" = none) (ha : PA X [a] (tIA (zn X) mas)) (hs : starEach [a] X.env = [(false, eval a X.env)] := by rfl) : PI X tg (.Call (.Name "range" p) [a] [] pos) (tII (zn X) (mRange1 mas)) :=
  ⟨fun pins s σ H R I q => (pi_range1 hg hm ha hs).run pins s σ H R I (ri_range1 q)⟩
theorem iI_range2 (hg : Gl X "range") (hm : X.mg "range" = none) (ha : PA X [a, b] (tIA (zn X) mas)) (hs : starEach [a, b] X.env = [(false, eval a X.env), (false, eval b X.env)] := by rfl) (hs2 : starEach [b] X.env = [(false, eval b X.env)] := by rfl) : PI X tg (.Call (.Name "range" p) [a, b] [] pos) (tII (zn X) (mRange2 mas)) :=
  ⟨fun pins s σ H R I q => (pi_range2 hg hm ha hs hs2).run pins s σ H R I (ri_range2 q)⟩
theorem iI_enum {elts : List Expr} {kk : Nat} {tpos : Pos} (hg : Gl X "enumerate") (hm : X.mg "enumerate" = none) (ha : PA X [a] (tIA (zn X) mas)) (hs : starEach [a] X.env = [(false, eval a X.env)] := by rfl) :
    PI X (.Tuple elts kk tpos) (.Call (.Name "enumerate" p) [a] [] pos) (tII (zn X) (mEnum mas)) :=
  ⟨fun pins s σ H R I q => (PI.or (pi_enum hg hm ha hs) (pi_enumT hg hm ha hs)).run pins s σ H R I (ri_enum q)⟩
@[simp] def mYes : MT := fun env => some (true, env)
theorem iF_nil : PTs X [] (tIT (zn X) mYes) := ⟨fun pins s σ H Q I h => by
  obtain ⟨B, Hb, env, b, env', st, e, q⟩ := h
  cases e
  exact pts_nil.run pins s σ H Q I (q Hb H (.refl st))⟩
theorem iF_one (h : PT X c (tIT (zn X) mt)) : PTs X [c] (tIT (zn X) mt) := pts_one h
def mCompN (own : List (Str × Nat)) (g : MG) (it : MI) (c : MT) (elt : ME) : ME := mComp (own.map (·.2)) g it c elt
def mDCompN (own : List (Str × Nat)) (g : MG) (it : MI) (c : MT) (ek ev : ME) : ME := mDComp (own.map (·.2)) g it c ek ev
theorem iE_lc (hc : X.calm = true) (hN : X.N.Nodup) (hi : PI X tg iter (tII (zn X) mi)) (ok : BlkOk X.N X.env.scope scope own)
    (hg : ∀ (s : Shared) (H : Hp) (C : Addr) (cl : List (Str × Addr)) (fp : List Addr), PG (X.blk s H scope (compEnvC scope cl C X.env) fp) tg (tG (zn X) is g)) (ht : ∀ (s : Shared) (H : Hp) (C : Addr) (cl : List (Str × Addr)) (fp : List Addr), PTs (X.blk s H scope (compEnvC scope cl C X.env) fp) ifs (tIT (zn X) mt))
    (he : ∀ (s : Shared) (H : Hp) (C : Addr) (cl : List (Str × Addr)) (fp : List Addr), PE (X.blk s H scope (compEnvC scope cl C X.env) fp) elt (tI (zn X) ma)) (his : ∀ i ∈ is, i ∈ own.map (·.2)) (hs : ∀ x, foldedSetIterable iter X.env x = pure x := by intro _; rfl) :
    PE X (.ListComp elt [⟨tg, iter, ifs, 0⟩] scope pos) (tI (zn X) (mCompN own g mi mt ma)) := pe_mono (pe_lc hc hN hi ok hg ht he hs) fun σ H Q => re_comp his
theorem iE_dc {kx vx : Expr} (hc : X.calm = true) (hN : X.N.Nodup) (hi : PI X tg iter (tII (zn X) mi)) (ok : BlkOk X.N X.env.scope scope own)
    (hg : ∀ (s : Shared) (H : Hp) (C : Addr) (cl : List (Str × Addr)) (fp : List Addr), PG (X.blk s H scope (compEnvC scope cl C X.env) fp) tg (tG (zn X) is g)) (ht : ∀ (s : Shared) (H : Hp) (C : Addr) (cl : List (Str × Addr)) (fp : List Addr), PTs (X.blk s H scope (compEnvC scope cl C X.env) fp) ifs (tIT (zn X) mt))
    (hk : ∀ (s : Shared) (H : Hp) (C : Addr) (cl : List (Str × Addr)) (fp : List Addr), PE (X.blk s H scope (compEnvC scope cl C X.env) fp) kx (tI (zn X) ma))
    (he : ∀ (s : Shared) (H : Hp) (C : Addr) (cl : List (Str × Addr)) (fp : List Addr), PE (X.blk s H scope (compEnvC scope cl C X.env) fp) vx (tI (zn X) mb)) (his : ∀ i ∈ is, i ∈ own.map (·.2)) (hs : ∀ x, foldedSetIterable iter X.env x = pure x := by intro _; rfl) :
    PE X (.DictComp kx vx [⟨tg, iter, ifs, 0⟩] scope pos) (tI (zn X) (mDCompN own g mi mt ma mb)) := pe_mono (pe_dc hc hN hi ok hg ht hk he hs) fun σ H Q => re_dcomp his
/-! statements -/
variable {st : Stmt} {sts body : List Stmt} {ms mr : MS}
theorem iSs_nil : PSs X [] (tS (zn X) mSkip) := pss_mono pss_nil fun D σ H => rs_skip
theorem iSs_one (h : PS X st (tS (zn X) ms)) : PSs X [st] (tS (zn X) ms) := pss_one h
theorem iSs_cons (h : PS X st (tS (zn X) ms)) (hr : PSs X sts (tS (zn X) mr)) : PSs X (st :: sts) (tS (zn X) (mSeq ms mr)) := pss_mono (pss_cons h hr) fun D σ H => rs_seq
theorem iS_pass : PS X (.Pass pos) (tS (zn X) mSkip) := ps_mono ps_pass fun D σ H => rs_skip
theorem iS_doc {z : Str} {j} : PS X (.Expr (.Constant (.str z) j p) pos) (tS (zn X) mSkip) := ps_mono ps_doc fun D σ H => rs_skip
theorem iS_break : PS X (.Break pos) (tS (zn X) mBreak) := ps_mono ps_break fun D σ H => rs_break
theorem iS_cont : PS X (.Continue pos) (tS (zn X) mCont) := ps_mono ps_continue fun D σ H => rs_cont
theorem iS_bad : PS X st (tS (zn X) mBad) := ps_mono ps_never fun D σ H => rs_bad
theorem iS_expr (he : PE X a (tI (zn X) ma)) (hs : swapsWith a none pos.line X.env = pure false := by rfl) : PS X (.Expr a pos) (tS (zn X) (mDrop ma)) := ps_mono (ps_expr he hs) fun D σ H => rs_drop
theorem iS_ret (he : PE X a (tI (zn X) ma)) : PS X (.Return (some a) pos) (tS (zn X) (mRet ma)) := ps_mono (ps_ret he) fun D σ H => rs_ret
theorem iS_retN : PS X (.Return none pos) (tS (zn X) mRetN) := ps_mono ps_retN fun D σ H => rs_retN
theorem iS_retT {k} (h : PA X es (tIA (zn X) mas)) : PS X (.Return (some (.Tuple es k p)) pos) (tS (zn X) (mRetT mas)) := ps_mono (ps_ret (pe_tup h)) fun D σ H => rs_retT
theorem iS_if {b1 b2 : List Stmt} (hc : PT X c (tIT (zn X) mt)) (ha : PSs X b1 (tS (zn X) ms)) (hb : PSs X b2 (tS (zn X) mr)) : PS X (.If c b1 b2 pos) (tS (zn X) (mIfS mt ms mr)) := ps_mono (ps_if hc ha hb) fun D σ H => rs_if
theorem iS_set (hN : X.N.Nodup) (hi : X.N[i]? = some x) (hx : Loc X.env.scope x) (he : PE X a (tI (zn X) ma)) (hs : swapsWith a (some (.Name x p)) pos.line X.env = pure false := by rfl) (hf : X.fn x = true ∨ X.env.scope.names.lookup x = some .local := by first | exact .inl rfl | exact .inr rfl) :
    PS X (.Assign [.Name x p] a pos) (tS (zn X) (mAsg (store i) ma)) := ps_mono (ps_set hN hi hx he hs hf) fun D σ H h => tI_mono (rs_asg (is := [i]) h) fun v H' => rg_name
theorem iS_setLc {spos : Pos} (hc : X.calm = true) (hN : X.N.Nodup) (hy : X.N[i]? = some x) (hyl : X.env.scope.names.lookup x = some .local)
    (hsw : swapsWith (.ListComp elt [⟨tg, iter, ifs, 0⟩] scope pos) (some (.Name x py)) spos.line X.env = pure true) (hi : PI X tg iter (tII (zn X) mi)) (ok : BlkOk X.N X.env.scope scope own)
    (hg : ∀ (s : Shared) (H : Hp) (C : Addr) (cl : List (Str × Addr)) (fp : List Addr), PG (X.blk s H scope (compEnvC scope cl C X.env) fp) tg (tG (zn X) is g)) (ht : ∀ (s : Shared) (H : Hp) (C : Addr) (cl : List (Str × Addr)) (fp : List Addr), PTs (X.blk s H scope (compEnvC scope cl C X.env) fp) ifs (tIT (zn X) mt))
    (he : ∀ (s : Shared) (H : Hp) (C : Addr) (cl : List (Str × Addr)) (fp : List Addr), PE (X.blk s H scope (compEnvC scope cl C X.env) fp) elt (tI (zn X) ma)) (his : ∀ i ∈ is, i ∈ own.map (·.2)) (hs : ∀ x, foldedSetIterable iter X.env x = pure x := by intro _; rfl) :
    PS X (.Assign [.Name x py] (.ListComp elt [⟨tg, iter, ifs, 0⟩] scope pos) spos) (tS (zn X) (mAsg (store i) (mCompN own g mi mt ma))) := ps_mono (ps_setLc hc hN hy hyl hsw hi ok hg ht he hs) fun D σ H h => re_comp his (tI_mono (rs_asg (is := [i]) h) fun v H' => rg_name)
theorem iS_asg (he : PE X a (tI (zn X) ma)) (hg : PG X tg (tG (zn X) is g)) (hs : swapsWithSole [tg] a pos.line X.env = pure false := by rfl) (hw : swappedStores [tg] a X.env = pure none := by rfl) (h1 : (assignEach [tg] X.env).map (·.2) = [assign tg X.env] := by rfl) :
    PS X (.Assign [tg] a pos) (tS (zn X) (mAsg g ma)) := ps_mono (ps_asg he hg hs hw h1) fun D σ H => rs_asg
@[simp] def mPar (is : List Nat) (a : MA) : MS := fun env => (a env).bind fun xs => (stores is xs.1 xs.2).bind fun e => some (.nx e)
theorem rs_par {Z : Zn} {i j : Nat} {ma : MA} {D : Ends} {σ : L2.St} {H : Hp} (h : tS Z (mPar [i, j] ma) D σ H) : tPar i j (tIA Z ma) D σ H := by
  obtain ⟨B, Hb, env, r, st, e, q⟩ := h
  simp only [mPar, Option.bind_eq_some_iff] at e
  obtain ⟨⟨xs, e1⟩, ha, e2, h1, h2⟩ := e
  cases h2
  refine ⟨B, Hb, env, xs, e1, st, ha, fun vs ps Hb1 H1 g1 rv => ?_⟩
  obtain ⟨l, v, r, rfl, w, r', rfl, e3, z⟩ := Sta.stores g1.st rv (fun p hp w => own_some st p (g1.ow p w) (rv.fresh p hp)) (fun p hp => st.h0 p (rv.fresh p hp)) h1 (fun σ' H' => D.nx σ' H') fun σ' s _ _ => q σ' Hb1 H1 s g1.ny.kb
  subst e3
  exact ⟨v, w, rfl, z⟩
theorem rs_par3 {Z : Zn} {i j l : Nat} {ma : MA} {D : Ends} {σ : L2.St} {H : Hp} (h : tS Z (mPar [i, j, l] ma) D σ H) : tPar3 i j l (tIA Z ma) D σ H := by
  obtain ⟨B, Hb, env, r, st, e, q⟩ := h
  simp only [mPar, Option.bind_eq_some_iff] at e
  obtain ⟨⟨xs, e1⟩, ha, e2, h1, h2⟩ := e
  cases h2
  refine ⟨B, Hb, env, xs, e1, st, ha, fun vs ps Hb1 H1 g1 rv => ?_⟩
  obtain ⟨l, v, r, rfl, w, r', rfl, u, r'', rfl, e3, z⟩ := Sta.stores g1.st rv (fun p hp w => own_some st p (g1.ow p w) (rv.fresh p hp)) (fun p hp => st.h0 p (rv.fresh p hp)) h1 (fun σ' H' => D.nx σ' H') fun σ' s _ _ => q σ' Hb1 H1 s g1.ny.kb
  subst e3
  exact ⟨v, w, u, rfl, z⟩
theorem iS_par {y : Str} {pt pt2 : Pos} {kt k2} (hc : X.calm = true) (hN : X.N.Nodup) (hi : X.N[i]? = some x) (hj : X.N[j]? = some y) (hij : i ≠ j) (hx : X.env.scope.names.lookup x = some .local) (hy : X.env.scope.names.lookup y = some .local) (ha : PA X [a, b] (tIA (zn X) mas))
    (hw : swappedStores [.Tuple [.Name x px, .Name y py] kt pt] (.Tuple [a, b] k2 pt2) X.env = pure (some [x, y])) (hs : swapsWithSole [.Tuple [.Name x px, .Name y py] kt pt] (.Tuple [a, b] k2 pt2) pos.line X.env = pure false := by rfl) :
    PS X (.Assign [.Tuple [.Name x px, .Name y py] kt pt] (.Tuple [a, b] k2 pt2) pos) (tS (zn X) (mPar [i, j] mas)) := ps_mono (ps_par hc hN hi hj hij hx hy ha hw hs) fun D σ H => rs_par
theorem iS_aug {op : Operator} {r : R2} {f : RV → RV → Option PV} (hN : X.N.Nodup) (hi : X.N[i]? = some x) (hx : Loc X.env.scope x) (ho : PIp X op r) (hs : Op2 (zn X) r f) (he : PE X a (tI (zn X) ma)) (hf : X.fn x = true ∨ X.env.scope.names.lookup x = some .local := by first | exact .inl rfl | exact .inr rfl) :
    PS X (.AugAssign (.Name x p) op a pos) (tS (zn X) (mAug i f ma)) := ps_mono (ps_aug hN hi hx he ho hf) fun D σ H => rs_aug hs
theorem iS_setIx {o : Expr} (ho : PE X o (tVar i)) (hi : PE X b (tI (zn X) mb)) (he : PE X a (tI (zn X) ma)) 
    (ha : ∀ v, assign (.Subscript o b p) X.env v = (do
      let ov ← holding [v] (eval o X.env)
      let iv ← holding [v, ov] (eval b X.env)
      standAt p
      holding [v, ov, iv] (setItem ov iv v)
      release [v, ov, iv] []) := by intro _; rfl) (hs : swapsWithSole [.Subscript o b p] a pos.line X.env = pure false := by rfl) (hw : swappedStores [.Subscript o b p] a X.env = pure none := by rfl) (h1 : (assignEach [.Subscript o b p] X.env).map (·.2) = [assign (.Subscript o b p) X.env] := by rfl) :
    PS X (.Assign [.Subscript o b p] a pos) (tS (zn X) (mSetIx i fSetL mb ma)) := ps_mono (ps_asg he (pg_sub ho hi set_list ha) hs hw h1) fun D σ H => rs_setIx t_setL
theorem iS_for (hp : PassesOwn (model X.prog X.w) X.A X.env X.xe) (hc : X.calm = true) (hi : PI X tg iter (tII (zn X) mi)) (hg : PG X tg (tG (zn X) is g)) (hb : PSs X body (tS (zn X) ms)) (hs : ∀ x, foldedSetIterable iter X.env x = pure x := by intro _; rfl) :
    PS X (.For tg iter body [] pos) (tS (zn X) (mFor g mi ms)) := ps_mono (ps_for hp hc hi hg hb hs) fun D σ H => rs_for
end
end Ol
set_option Elab.async false
set_option linter.all false
set_option maxRecDepth 100000
set_option maxHeartbeats 4000000
/-! own: calls by keywords alone -/
namespace Ol
open PySem PySem.Spec PyProof.Rows L2
def pick : List Nat → List PV → Option (List PV)
  | [], _ => some []
  | i :: is, xs => (xs[i]?).bind fun x => (pick is xs).bind fun r => some (x :: r)
def pickV (is : List Nat) (zs : List V) : List V := is.map fun i => zs.getD i .non
def pickW (is : List Nat) (ws : List Value) : List Value := is.map fun i => ws.getD i .none
theorem pick_vals {zs : List V} {ws : List Value} (r : Vals zs ws) : ∀ is : List Nat, Vals (pickV is zs) (pickW is ws)
  | [] => .nil
  | i :: is => by
    refine .cons ?_ (pick_vals r is)
    cases e : zs[i]? with
    | none =>
      have h1 := List.getElem?_eq_none_iff.mp e
      have h2 : ws[i]? = none := List.getElem?_eq_none_iff.mpr (by rw [← r.length]; exact h1)
      simp only [List.getD_eq_getElem?_getD, e, h2]
      exact rfl
    | some v =>
      obtain ⟨u, h1, h2⟩ := r.get e
      simp only [List.getD_eq_getElem?_getD, e, h1]
      exact h2
def mCallK (perm : List Nat) (ios : List Bool) (F : Fn) (a : MA) : ME := fun env => (a env).bind fun xs => (pick perm xs.1).bind fun ys => if okSlots (fzIO ios ys) = true then (pars xs.2 ios (fzIO ios ys)).bind fun ss => (F (ss.map (·.1))).bind fun r =>
  if (!(ss.any (·.2)) || (nlP r.1 && nlM r.2)) = true then (putOuts xs.2 (fzIO ios ys) r.2).bind fun e2 => some (r.1, e2) else none else none
section
variable {Z : Zn} {H0 Hb H : Hp} {σ : L2.St}
theorem VRs.pick {pvs : List PV} {vs : List V} {ps : List Addr} (h : VRs Z H0 Hb H σ vs pvs ps) : ∀ {is : List Nat} {ys : List PV}, is.Nodup → Ol.pick is pvs = some ys → ∃ ps', VRs Z H0 Hb H σ (pickV is vs) ys ps' ∧ ∀ p ∈ ps', ∃ k ∈ is, ∃ o, pvs[k]? = some (PV.new o) ∧ vs[k]? = some (V.ref p)
  | [], _, _, e => by cases e; exact ⟨[], .nil, by simp⟩
  | i :: is, _, nd, e => by
    simp only [Ol.pick, Option.bind_eq_some_iff] at e
    obtain ⟨x, h1, r, h2, h3⟩ := e
    cases h3
    obtain ⟨n1, n2⟩ := List.nodup_cons.mp nd
    obtain ⟨ps', q1, q2⟩ := h.pick n2 h2
    obtain ⟨v, h4, h5⟩ := h.get h1
    have ev : pickV (i :: is) vs = v :: pickV is vs := by simp [pickV, h4]
    rw [ev]
    have lift : ∀ p ∈ ps', ∃ k ∈ i :: is, ∃ o, pvs[k]? = some (PV.new o) ∧ vs[k]? = some (V.ref p) := fun p hp => let ⟨k, hk, z⟩ := q2 p hp; ⟨k, List.mem_cons_of_mem _ hk, z⟩
    cases h5 with
    | d a => exact ⟨ps', .d a q1, lift⟩
    | new a b c =>
      rename_i p o
      refine ⟨p :: ps', .new a b c (fun hp => ?_) q1, fun p' hp' => ?_⟩
      · obtain ⟨k, hk, o', z1, z2⟩ := q2 p hp
        exact n1 (h.df h1 z1 h4 z2 ▸ hk)
      · rcases List.mem_cons.mp hp' with z | z
        · subst z; exact ⟨i, List.mem_cons_self, o, h1, h4⟩
        · exact lift p' z
    | slot a => exact ⟨ps', .slot a q1, lift⟩
    | tup a t =>
      exfalso
      have z : ∀ {pvs : List PV} {vs : List V} {ps : List Addr} {j : Nat} {xs : List PV}, VRs Z H0 Hb H σ vs pvs ps → pvs[j]? = some (PV.tup xs) → False := by
        intro pvs
        induction pvs with
        | nil => intro vs ps j xs _ e; simp at e
        | cons y r ih =>
          intro vs ps j xs h e
          cases j with
          | zero => simp at e; subst e; cases h
          | succ j =>
            have e' : r[j]? = some (PV.tup xs) := by simpa using e
            cases h with
            | d a t => exact ih t e'
            | new a b c n t => exact ih t e'
            | slot a t => exact ih t e'
      exact z h h1
theorem re_callK {F : Fn} {perm : List Nat} {ios : List Bool} {ma : MA} {E : XK} {Q : VK} {n : Nat} (nd : perm.Nodup) (hn : ∀ env xs e, ma env = some (xs, e) → xs.length = n) (h : tI Z (mCallK perm ios F ma) σ H Q) :
    tCallN 0 n (spI Z F) (fun _ zs => pickV perm zs) E tNil (tIA Z ma) σ H Q := by
  obtain ⟨B, Hb, env, pv, env', st, e, q⟩ := h
  simp only [mCallK, Option.bind_eq_some_iff] at e
  obtain ⟨⟨xs, e1⟩, ha, ys, hy, e⟩ := e
  split at e
  · rename_i ok
    simp only [Option.bind_eq_some_iff] at e
    obtain ⟨ss, hs, ⟨r, outs⟩, hF, e⟩ := e
    split at e
    · rename_i cond
      simp only [Option.bind_eq_some_iff] at e
      obtain ⟨e2, hp, e⟩ := e
      cases e
      refine ⟨B, Hb, env, xs, e1, st, ha, fun vs ps Hb1 H1 g1 rv1 => ⟨rfl, by rw [rv1.len]; exact hn _ _ _ ha, ?_⟩⟩
      obtain ⟨ps', rv2, _⟩ := rv1.pick nd hy
      refine call_at st g1 rv2 ok hs hF (fun l => ?_) hp q
      rw [l] at cond
      simpa using cond
    · cases e
  · cases e
end
theorem mNil_len : ∀ env xs e, mNil env = some (xs, e) → xs.length = 0 := fun env xs e h => by cases h; rfl
theorem mCons_len {a : ME} {r : MA} {n : Nat} (hr : ∀ env xs e, r env = some (xs, e) → xs.length = n) : ∀ env xs e, mCons a r env = some (xs, e) → xs.length = n + 1 := fun env xs e h => by
  simp only [mCons, Option.bind_eq_some_iff] at h
  obtain ⟨x, h1, p, h2, ys, h3, h4⟩ := h
  cases h4
  exact congrArg Nat.succ (hr _ _ _ (by rw [h3]))
structure FokK (Z : Zn) (mg : Str → Option Value) (base : Heap) (k : Nat) (x : Str) (ks : List Str) (perm : List Nat) (F : Fn) : Prop where
  ex : ∃ (f : Addr) (fd : FuncData) (ps : List Str), FnOk Z.P Z.w Z.K mg base L2.CX0 k f fd ps (spI Z F) ∧ mg x = some (.ref f) ∧ PySem.W.keepIn Z.K (.ref f) = true ∧ KBn Z.K fd ps 0 ks (fun _ ws => pickW perm ws) (fun _ zs => pickV perm zs)
section
variable {X : Cx} {x : Str} {pos p : Pos} {j k : Nat} {mas : MA} {kws : List Keyword}
theorem iE_callK {F : Fn} {ios : List Bool} {ks : List Str} {perm : List Nat} (c : FokK (zn X) X.mg X.base k x ks perm F) (hr : Room j X.A) (hk : k ≤ j) (nd : perm.Nodup) (hn : ∀ env xs e, mas env = some (xs, e) → xs.length = ks.length) (hg : Gl X x) (ha : PK X kws (tIA (zn X) mas))
    (hks : (backToKw pos (keywordEach kws X.env)).filterMap (·.1) = ks := by rfl) (hdb : (x == ("__debug__" : Str)) = false := by decide) (hall : (backToKw pos (keywordEach kws X.env)).all (·.1.isSome) = true := by rfl)
    (hpl : ((backTo pos (starEach [] X.env)).any (·.1) || (backToKw pos (keywordEach kws X.env)).any (·.1.isNone)) = false := by rfl) : PE X (.Call (.Name x p) [] kws pos) (tI (zn X) (mCallK perm ios F mas)) := by
  obtain ⟨f, fd, ps, F', hm, kp, b⟩ := c.ex
  refine pe_mono (t := tCallN 0 ks.length (spI (zn X) F) (fun _ zs => pickV perm zs) L2.E0 tNil (tIA (zn X) mas)) ⟨fun pins s σ H Q I h => ?_⟩ fun σ H Q h => re_callK nd hn h
  refine wpAny_Call_Name_kw (ld_glob I hg hm ?_ hdb)
  refine PySem.W.callWith_KW0 (h₀ := X.base) I.ok.mod.kin kp hall (thn (ha.run pos pins s σ H _ I h) fun ws s2 ⟨zs, H2, I2, rz, l1, l2, q2⟩ => ⟨I2.kIn, ?_⟩) hpl
  rw [hks]
  exact run_fnN F' (hr.mono hk) b L2.pass0 I2 .nil rz l1 l2 q2
theorem iK_nil : PK X [] (tIA (zn X) mNil) := ⟨fun pos pins s σ H Q I h => pk_nil.run pos pins s σ H Q I (re_nil h)⟩
theorem iK_cons {nm : Option Str} {e : Expr} {kpos : Pos} {ma : ME} (ha : PE X e (tI (zn X) ma)) (hr : PK X kws (tIA (zn X) mas)) : PK X (⟨nm, e, kpos⟩ :: kws) (tIA (zn X) (mCons ma mas)) := ⟨fun pos pins s σ H Q I h => (pk_cons ha hr).run pos pins s σ H Q I (re_cons h)⟩
end
@[simp] def oIAdd := oII fun i j => some (iD (i + j))
theorem s_iadd {Z : Zn} : Op2 Z (rI0 fun i j => .int (i + j)) oIAdd := s_ii0
theorem spI_len {Z : Zn} {np n : Nat} {body : MS} {F : Fn} (hF : F = runFn np n body) : ∀ vs H Q E, spI Z F vs H Q E → vs.length = np := fun vs H Q E h => by
  subst hF
  obtain ⟨Hb, svs, r, outs, hl, st, hF, q⟩ := h
  unfold runFn at hF
  split at hF
  · rename_i c; exact hl.trans c
  · cases hF
theorem fok_none {P : Program} {w : World} {K : Fg} {mg : Str → Option Value} {base : Heap} {k : Nat} {f : Addr} {fd : FuncData} {ps : List Str} : FnOk P w K mg base L2.CX0 k f fd ps (spI ⟨K, P, w⟩ fun _ => none) :=
  ⟨fun vs H Q E h => (by obtain ⟨_, _, _, _, _, _, e, _⟩ := h; cases e), fun A outer s H args us vs Q E _ _ _ _ h => by obtain ⟨_, _, _, _, _, _, e, _⟩ := h; cases e⟩
/-- what the law's own def is asked, out of what it computes -/
theorem law_go {P : Program} {w : World} {K : Fg} {F : Fn} {sp : Sp}
    (hs : ∀ vs H Q E, sp vs H Q E → ∃ (a : Addr) (ns : List Int), vs = [.ref a] ∧ SqL K H a (ns.map V.int) ∧ F [.d (.list (ns.map .int))] = some (.d (.bool true), [none]) ∧ ∀ H', Q (.bl true) H') : ∀ vs H Q E, sp vs H Q E → spI ⟨K, P, w⟩ F vs H Q E := fun vs H Q E q => by
    obtain ⟨a, ns, rfl, hl, hF, hq⟩ := hs vs H Q E q
    refine ⟨H, [.d (.list (ns.map .int))], .d (.bool true), [none], rfl, ⟨.refl .rfl, fun i sv e => ?_, fun i j p b o b' o' e => ?_, rfl⟩, hF, fun v Hb' H' _ _ rv => ?_⟩
    · rw [sget_map] at e
      cases i with
      | zero =>
        simp at e
        subst e
        exact ⟨.ref a, rfl, .lst hl (DpAll.ints ns)⟩
      | succ i => simp at e
    · rw [sget_map] at e
      cases i with
      | zero => simp at e
      | succ i => simp at e
    · cases rv with
      | d z => cases z; exact hq H'
theorem fnOk_law {P : Program} {w : World} {K : Fg} {mg : Str → Option Value} {base : Heap} {k : Nat} {f : Addr} {fd : FuncData} {ps : List Str} {F : Fn} {sp : Sp} (h : FnOk P w K mg base L2.CX0 k f fd ps (spI ⟨K, P, w⟩ F))
    (hs : ∀ vs H Q E, sp vs H Q E → ∃ (a : Addr) (ns : List Int), vs = [.ref a] ∧ SqL K H a (ns.map V.int) ∧ F [.d (.list (ns.map .int))] = some (.d (.bool true), [none]) ∧ ∀ H', Q (.bl true) H') : FnOk P w K mg base L2.CX0 k f fd ps sp := by
  exact h.imp (law_go hs)
end Ol
namespace Ol
open PySem PySem.Spec PyProof.Rows L2
theorem kbn {K : Fg} {x qual : Str} {params : Arguments} {body : List Stmt} {scope : Scope} {kws : List (Str × V)} {f : Addr} {fd : FuncData} {ps ks : List Str} {perm : List Nat} (F : L2.FunD K x qual params body scope [] kws f fd)
    (h : ∀ (kV doc pm : Value) (an : Option Addr) (cdv ct : Value) (ws : List Value), ws.length = ks.length → bindArgs (PySem.W.fnOf x qual params body scope .none kV doc pm an cdv ct) ⟨[], ks.zip ws⟩ = pure (ps.zip (pickW perm ws))) :
    KBn K fd ps 0 ks (fun _ ws => pickW perm ws) (fun _ zs => pickV perm zs) := by
  refine ⟨fun s us ws X l1 l2 => ?_, fun r1 r2 => pick_vals r2 perm⟩
  have e : us = [] := List.eq_nil_of_length_eq_zero l1
  subst e
  obtain ⟨oc, od, dV, kV, doc, pm, an, cdv, ct, osl, rfl, lk, hcd, hD, hK⟩ := F.ex
  rcases hD with ⟨_, rfl⟩ | ⟨e, _⟩
  · exact .of_eq (h kV doc pm an cdv ct ws l2)
  · exact absurd rfl e
end Ol
/-! own: which form a goal has, told cheaply -/
namespace Ol
open PySem PySem.Spec PyProof.Rows L2
/-- a list that is never changed from here on -/
@[simp] def fzP : PV → PV
  | .new (.lst xs) => .d (.list xs)
  | x => x
@[simp] def mAsgF (i : Nat) (a : ME) : MS := fun env => (a env).bind fun x => (store i (fzP x.1) x.2).bind fun e => some (.nx e)
theorem rs_asgF {Z : Zn} {i : Nat} {a : ME} {D : Ends} {σ : L2.St} {H : Hp} (h : tS Z (mAsgF i a) D σ H) : tAsg (tI Z a) (gName i) D σ H := by
  obtain ⟨B, Hb, env, r, st, e, q⟩ := h
  simp only [mAsgF, Option.bind_eq_some_iff] at e
  obtain ⟨⟨x, e1⟩, ha, e2, h1, h2⟩ := e
  cases h2
  refine ⟨B, Hb, env, x, e1, st, ha, fun v Hb' H' g1 rv => ?_⟩
  have plain : fzP x = x → gName i v σ H' D.nx := fun hx => by
    rw [hx] at h1
    obtain ⟨s, _⟩ := g1.st.store (v := v) (fun y hy => by subst hy; cases rv with | d a => exact a) (fun o ho => by
      subst ho
      cases rv with
      | new a b c => exact ⟨_, rfl, fun w => own_some st _ (g1.ow _ w) a, b, st.h0 _ a, c⟩) h1
    exact q _ Hb' H' s g1.ny.kb
  cases x with
  | d y => exact plain rfl
  | slot j => exact plain rfl
  | tup xs => exact plain rfl
  | new o =>
    cases o with
    | set ks => exact plain rfl
    | dic kvs => exact plain rfl
    | dit kvs => exact plain rfl
    | lst xs =>
      obtain ⟨Hb2, g2, hd⟩ := fz_known st g1 rv rfl
      obtain ⟨s, _⟩ := g2.st.store (v := v) (fun y hy => by cases hy; exact hd) (fun o ho => by cases ho) h1
      exact q _ Hb2 H' s g2.ny.kb
section
variable {X : Cx} {x : Str} {a elt tg iter : Expr} {ifs : List Expr} {i : Nat} {p pos py : Pos} {ma : ME} {g : MG} {is : List Nat} {mi : MI} {mt : MT} {scope : Scope} {own : List (Str × Nat)}
theorem iS_setF (hN : X.N.Nodup) (hi : X.N[i]? = some x) (hx : Loc X.env.scope x) (he : PE X a (tI (zn X) ma)) (hs : swapsWith a (some (.Name x p)) pos.line X.env = pure false := by rfl) (hf : X.fn x = true ∨ X.env.scope.names.lookup x = some .local := by first | exact .inl rfl | exact .inr rfl) :
    PS X (.Assign [.Name x p] a pos) (tS (zn X) (mAsgF i ma)) := ps_mono (ps_set hN hi hx he hs hf) fun D σ H => rs_asgF
theorem iS_setLcF {spos : Pos} (hc : X.calm = true) (hN : X.N.Nodup) (hy : X.N[i]? = some x) (hyl : X.env.scope.names.lookup x = some .local)
    (hsw : swapsWith (.ListComp elt [⟨tg, iter, ifs, 0⟩] scope pos) (some (.Name x py)) spos.line X.env = pure true) (hi : PI X tg iter (tII (zn X) mi)) (ok : BlkOk X.N X.env.scope scope own)
    (hg : ∀ (s : Shared) (H : Hp) (C : Addr) (cl : List (Str × Addr)) (fp : List Addr), PG (X.blk s H scope (compEnvC scope cl C X.env) fp) tg (tG (zn X) is g)) (ht : ∀ (s : Shared) (H : Hp) (C : Addr) (cl : List (Str × Addr)) (fp : List Addr), PTs (X.blk s H scope (compEnvC scope cl C X.env) fp) ifs (tIT (zn X) mt))
    (he : ∀ (s : Shared) (H : Hp) (C : Addr) (cl : List (Str × Addr)) (fp : List Addr), PE (X.blk s H scope (compEnvC scope cl C X.env) fp) elt (tI (zn X) ma)) (his : ∀ i ∈ is, i ∈ own.map (·.2)) (hs : ∀ x, foldedSetIterable iter X.env x = pure x := by intro _; rfl) :
    PS X (.Assign [.Name x py] (.ListComp elt [⟨tg, iter, ifs, 0⟩] scope pos) spos) (tS (zn X) (mAsgF i (mCompN own g mi mt ma))) := ps_mono (ps_setLc hc hN hy hyl hsw hi ok hg ht he hs) fun D σ H h => re_comp his (rs_asgF h)
end
section
variable {X : Cx} {st : Stmt} {Z : Zn} {x : ME} {i : Nat}
theorem gSetF {own : List (Str × Nat)} {gg : MG} {m : MI} {k : MT} (h : PS X st (tS Z (mAsgF i (mCompN own gg m k x)))) : PS X st (tS Z (mAsgF i (mCompN own gg m k x))) := h
theorem gStF (h : PS X st (tS Z (mAsgF i x))) : PS X st (tS Z (mAsgF i x)) := h
end
section
variable {X : Cx} {e a : Expr} {es : List Expr} {Z : Zn} {x y c : ME} {l : MA} {op : BoolOp} {pos : Pos} {t : TE} {i kd : Nat} {d : D}
theorem gOne (h : PE X (.BoolOp op [a] pos) t) : PE X (.BoolOp op [a] pos) t := h
theorem gVar (h : PE X e (tI Z (mVar i))) : PE X e (tI Z (mVar i)) := h
theorem gC (h : PE X e (tI Z (mC d))) : PE X e (tI Z (mC d)) := h
theorem gM2 (f : RV → RV → Option PV) (h : PE X e (tI Z (m2 f x y))) : PE X e (tI Z (m2 f x y)) := h
theorem gM1 (f : RV → Option PV) (h : PE X e (tI Z (m1 f x))) : PE X e (tI Z (m1 f x)) := h
theorem gCh (f g : RV → RV → Option PV) (h : PE X e (tI Z (mChain f g x y c))) : PE X e (tI Z (mChain f g x y c)) := h
theorem gT2 (f : RV → RV → Option PV) (h : PT X e (tIT Z (mTest (m2 f x y)))) : PT X e (tIT Z (mTest (m2 f x y))) := h
theorem gTCh (f g : RV → RV → Option PV) (h : PT X e (tIT Z (mTest (mChain f g x y c)))) : PT X e (tIT Z (mTest (mChain f g x y c))) := h
theorem gTru (h : PT X e (tIT Z (mTru x))) : PT X e (tIT Z (mTru x)) := h
theorem gB (f : List RV → Option PV) (h : PE X e (tI Z (mB f l))) : PE X e (tI Z (mB f l)) := h
theorem gSl {m n : MO} (h : PE X e (tI Z (mSl x m n))) : PE X e (tI Z (mSl x m n)) := h
theorem gCall {ios : List Bool} {F : Fn} (h : PE X e (tI Z (mCall ios F l))) : PE X e (tI Z (mCall ios F l)) := h
theorem gCallK {p : List Nat} {ios : List Bool} {F : Fn} (h : PE X e (tI Z (mCallK p ios F l))) : PE X e (tI Z (mCallK p ios F l)) := h
theorem gIsi {T : String} (h : PE X e (tI Z (mIsi x T))) : PE X e (tI Z (mIsi x T)) := h
theorem gIsi2 {T T' : String} (h : PE X e (tI Z (mIsi2 x T T'))) : PE X e (tI Z (mIsi2 x T T')) := h
theorem gSS (h : PE X e (tI Z (mSortedSet x))) : PE X e (tI Z (mSortedSet x)) := h
theorem gMt (f : Ob → List D → Option (PV × Ob)) (h : PE X e (tI Z (mMeth kd i f l))) : PE X e (tI Z (mMeth kd i f l)) := h
theorem gLc {own : List (Str × Nat)} {g : MG} {m : MI} {k : MT} (h : PE X e (tI Z (mCompN own g m k x))) : PE X e (tI Z (mCompN own g m k x)) := h
theorem gDc {own : List (Str × Nat)} {g : MG} {m : MI} {k : MT} (h : PE X e (tI Z (mDCompN own g m k x y))) : PE X e (tI Z (mDCompN own g m k x y)) := h
theorem gA (h : PA X (a :: es) (tIA Z (mCons x l))) : PA X (a :: es) (tIA Z (mCons x l)) := h
variable {tg : Expr} {st : Stmt} {s s' : MS} {g : MG} {is : List Nat} {v p : Expr} {n : Str} {ps : Pos}
theorem gI1 (h : PI X tg e (tII Z (mRange1 l))) : PI X tg e (tII Z (mRange1 l)) := h
theorem gI2 (h : PI X tg e (tII Z (mRange2 l))) : PI X tg e (tII Z (mRange2 l)) := h
theorem gIe (h : PI X tg e (tII Z (mEnum l))) : PI X tg e (tII Z (mEnum l)) := h
theorem gSet {own : List (Str × Nat)} {gg : MG} {m : MI} {k : MT} (h : PS X st (tS Z (mAsg (store i) (mCompN own gg m k x)))) : PS X st (tS Z (mAsg (store i) (mCompN own gg m k x))) := h
theorem gSt (h : PS X st (tS Z (mAsg (store i) x))) : PS X st (tS Z (mAsg (store i) x)) := h
theorem gAs (h : PS X st (tS Z (mAsg g x))) : PS X st (tS Z (mAsg g x)) := h
theorem gAug (f : RV → RV → Option PV) (h : PS X st (tS Z (mAug i f x))) : PS X st (tS Z (mAug i f x)) := h
theorem gSix {f : Ob → D → D → Option Ob} (h : PS X st (tS Z (mSetIx i f x y))) : PS X st (tS Z (mSetIx i f x y)) := h
theorem gFor {m : MI} (h : PS X st (tS Z (mFor g m s))) : PS X st (tS Z (mFor g m s)) := h
theorem gPar (h : PS X st (tS Z (mPar is l))) : PS X st (tS Z (mPar is l)) := h
theorem gDrop (h : PS X st (tS Z (mDrop x))) : PS X st (tS Z (mDrop x)) := h
end
end Ol
set_option Elab.async false
set_option linter.all false
set_option maxRecDepth 100000
set_option maxHeartbeats 4000000
/-! own: sorted(set(x)) of ints; x[::-1]; t.index(x); list(range(n)) -/
namespace Ol
open PySem PySem.Spec PyProof.Rows L2
def rSortedQI (P : Program) (w : World) : List V → Hp → VK → Prop := fun xs H Q => ∃ (p : Addr) (zs : List Int), xs = [.ref p] ∧ H p = some (SetQ P w p (zs.map Sum.inl)) ∧ zs.length < 64 ∧
  ∀ (ys : List Int) (q : Addr), ys.Perm zs → ys.Pairwise (· ≤ ·) → H q = none → Q (.ref q) (upd H q (.lst (ys.map V.int)))
theorem ints_of_ents {P : Program} {w : World} : ∀ {es : List (Int × Value)} {zs : List Int}, Paired (Ent (mixKind P w)) es (zs.map Sum.inl) → IntsAre (es.map (·.2)) zs
  | _, [], .nil => .nil
  | (hsh, v) :: es, z :: zs, .cons r t => by
    rcases keyIs_shape (show keyIs (Sum.inl z) v = true from r.1.1) with ⟨i, tk, ek, e⟩ | ⟨x, tk, ek, e⟩
    · cases ek
      subst e
      exact .cons z tk (ints_of_ents t)
    · cases ek
theorem ints_perm {l l' : List Value} (p : l'.Perm l) : ∀ {zs : List Int}, IntsAre l zs → ∃ zs', IntsAre l' zs' ∧ zs'.Perm zs := by
  induction p with
  | nil => intro zs h; exact ⟨zs, h, .refl _⟩
  | cons x _ ih =>
    intro zs h
    cases h with
    | cons n t r =>
      obtain ⟨m, h1, h2⟩ := ih r
      exact ⟨n :: m, .cons n t h1, h2.cons _⟩
  | swap x y l =>
    intro zs h
    cases h with
    | cons n t r => cases r with
      | cons n2 t2 r2 => exact ⟨n2 :: n :: _, .cons n2 t2 (.cons n t r2), .swap _ _ _⟩
  | trans _ _ ih1 ih2 =>
    intro zs h
    obtain ⟨m1, h1, p1⟩ := ih2 h
    obtain ⟨m2, h2, p2⟩ := ih1 h1
    exact ⟨m2, h2, p2.trans p1⟩
section
variable {X : Cx}
theorem cr_sortedQI (hc : X.calm = true) : CallR X (.builtin "sorted") (rSortedQI X.prog X.w) := by
  intro pins s σ H xs us Q I r h
  obtain ⟨p, zs, rfl, ha, h64, q⟩ := h
  rw [Vals.ref1 r]
  obtain ⟨ob, es, ep, t, ls, ho, hx, hd, hp, pm, nd, hb, hf, hr, hl⟩ := (I.hok p _ ha).1
  have hz : es.size = zs.length := by rw [← Array.length_toList, hp.length, pm.length_eq, List.length_map]
  refine Calls.call_function_entry kind_sorted plain_sorted entry_sorted (args_sorted1 _) ?_
  unfold Builtin.«sorted»
  refine wpAny_bind (m := checkCount "sorted" 1 1 _) (wpAny_pure ?_)
  refine wpAny_bind (collect_set (A := X.A.in1) (I.ok.hd hc) ⟨ob, ho, hx.1, hd⟩ hf (by rw [hz]; simpa using hb) hr hl fun s1 vs k1 z1 g1 o1 pv => ?_)
  have hS : ∃ ws, IntsAre vs ws ∧ ws.Perm zs := by
    obtain ⟨es', hpe, hpp⟩ := paired_perm2 pm.symm hp
    exact ints_perm (pv.trans (hpp.symm.map (·.2))) (ints_of_ents hpe)
  obtain ⟨ws, hS, hw⟩ := hS
  have hvl : vs.length = zs.length := by rw [hS.length, hw.length_eq]
  refine wpAny_bind (wpAny_newList ?_ (by rw [hvl, sizeLine_eq]; omega))
  have at1 : (s1.heap.push (seqObj "list" vs.toArray 0)).get? s1.heap.objs.size = some (seqObj "list" vs.toArray 0) := Heap.get?_push_size _ rfl
  refine wpAny_bind (wpAny_holding (wpAny_call_entry PyProof.Rows.slot_list_sort ⟨_, at1, rfl⟩ PyProof.Rows.entry_list_sort
    (list_sort_tree at1 hS (by rw [hvl]; exact h64) fun out ys y1 y2 y3 => ⟨_, rfl, ?_⟩)
    (PyProof.Rows.args_list_sort _)))
  obtain ⟨n', at2⟩ := PyProof.Rows.sortedHeap_at (vs := vs) (out := out) at1
  have pz : ys.Perm zs := y2.trans hw
  have hle : (ys.map V.int).length ≤ sizeLine := by rw [List.length_map, pz.length_eq]; exact small64 h64
  have old : ∀ b o, s.heap.get? b = some o → (sortedHeap (s1.heap.push (seqObj "list" vs.toArray 0)) s1.heap.objs.size vs out).get? b = some o := fun b o e => by
    have e1 := k1 b o e
    have lt := Heap.lt_size e1
    rw [sortedHeap_old (Nat.ne_of_lt lt) (by rw [size_push']; exact Nat.lt_succ_of_lt lt)]
    exact Heap.get?_push_of_some _ e1
  have hn : H s1.heap.objs.size = none := I.hok.fresh z1
  have new : ObjOk X.prog X.w (upd H s1.heap.objs.size (.lst (ys.map V.int))) (sortedHeap (s1.heap.push (seqObj "list" vs.toArray 0)) s1.heap.objs.size vs out) s1.heap.objs.size (.lst (ys.map V.int)) :=
    ⟨hle, out.toList, n', vals_of_ints y1, by rw [Array.toArray_toList]; exact at2⟩
  refine wpAny_pure ⟨_, rfl, .ref s1.heap.objs.size, upd H s1.heap.objs.size (.lst (ys.map V.int)), ?_, rfl, q ys _ pz y3 hn⟩
  have J : Inv X pins σ (upd H s1.heap.objs.size (.lst (ys.map V.int))) { s with heap := sortedHeap (s1.heap.push (seqObj "list" vs.toArray 0)) s1.heap.objs.size vs out, gens := s1.gens, drawn := s1.drawn, toks := s1.toks } :=
    I.call (ch := []) (Un.laid old z1 hn) (I.hok.laid old z1 new) (by rw [g1]; exact I.bare) (fun _ z => nomatch z)
  have e : ({ s1 with heap := sortedHeap (s1.heap.push (seqObj "list" vs.toArray 0)) s1.heap.objs.size vs out } : Shared) = { s with heap := sortedHeap (s1.heap.push (seqObj "list" vs.toArray 0)) s1.heap.objs.size vs out, gens := s1.gens, drawn := s1.drawn, toks := s1.toks } := by
    rw [← o1]
  rw [e]
  exact J
end
def leI (a b : Int) : Bool := decide (a ≤ b)
def sortI (zs : List Int) : List Int := zs.mergeSort leI
theorem sortI_of {ys zs : List Int} (h1 : ys.Perm zs) (h2 : ys.Pairwise (· ≤ ·)) : ys = sortI zs := by
  have hq := List.pairwise_mergeSort (le := leI) (fun a b c h1 h2 => by simp only [leI, decide_eq_true_eq] at *; omega) (fun a b => by simp only [leI, Bool.or_eq_true, decide_eq_true_eq]; omega) zs
  have hq' : (sortI zs).Pairwise (· ≤ ·) := hq.imp fun h => of_decide_eq_true h
  exact List.Perm.eq_of_pairwise (fun a b _ _ h1 h2 => Int.le_antisymm h1 h2) h2 hq' (h1.trans (List.mergeSort_perm zs leI).symm)
def oSortedI (r : RV) : Option PV := match r with
  | .d (.list ds) => (intsOf ds).bind fun zs => if zs.length + 1 < scanBound ∧ (dist zs).length < 64 then some (.new (.lst ((sortI (dist zs)).map .int))) else none
  | _ => none
def mSortedSetI (a : ME) : ME := m1 oSortedI a
section
variable {Z : Zn} {σ : L2.St} {H : Hp}
theorem re_sortedSetI {a : ME} {Q : VK} (h : tI Z (mSortedSetI a) σ H Q) : tCB (rSortedQI Z.P Z.w) (tCons (tCB (rSetK Z.K Z.P Z.w) (tCons (tI Z a) tNil)) tNil) σ H Q := by
  obtain ⟨B, Hb, env, pv, env', st, e, q⟩ := h
  simp only [mSortedSetI, m1, Option.bind_eq_some_iff] at e
  obtain ⟨⟨x, e1⟩, ha, r, h1, p, h2, h3⟩ := e
  cases h3
  refine ⟨B, Hb, env, x, _, st, ha, fun v Hb1 H1 g1 rv => ?_⟩
  have main : ∀ (a : Addr) (zs : List Int), v = .ref a → (SqL Z.K H1 a (zs.map V.int) ∨ SqT Z.K H1 a (zs.map V.int)) → zs.length + 1 < scanBound ∧ (dist zs).length < 64 → pv = PV.new (Ob.lst ((sortI (dist zs)).map PyData.int)) →
      rSetK Z.K Z.P Z.w [v] H1 fun x H2 => rSortedQI Z.P Z.w [x] H2 Q := by
    intro a zs ev hs hl ep
    subst ev ep
    have ek : zs.map V.int = (zs.map Sum.inl : List Key).map kV := by rw [List.map_map]; rfl
    rw [ek] at hs
    refine ⟨a, zs.map Sum.inl, rfl, hs, by rw [List.length_map]; exact hl.1, .inr fun s hn => ?_⟩
    have n1 := Nx.newOwn (o := SetQ Z.P Z.w s (dist (zs.map Sum.inl))) g1.st.sub hn
    have g2 := g1.nx n1
    refine ⟨s, dist zs, rfl, by rw [upd_same, dist_map Sum.inl (fun _ _ h => Sum.inl.inj h)], hl.2, fun ys t hp hsr ht => ?_⟩
    have n2 := Nx.newOwn (o := .lst (ys.map V.int)) g2.st.sub ht
    have g3 := g2.nx n2
    have ey := sortI_of hp hsr
    subst ey
    exact q _ _ _ g3 (.new (g1.ny.back t (by
      have : t ≠ s := fun z => by rw [z, upd_same] at ht; cases ht
      rw [upd_ne this] at ht
      exact ht)) (g2.st.sub.free ht) (.lst upd_same (DpAll.ints _)))
  have w := rv.rd g1.st h1
  unfold oSortedI at h2
  split at h2
  · cases w with
    | lst s t =>
      simp only [Option.bind_eq_some_iff] at h2
      obtain ⟨zs, h3, h4⟩ := h2
      have hd := intsOf_eq h3
      subst hd
      have hv := DpAll.ints_inv t
      subst hv
      split at h4
      · rename_i c; exact main _ zs rfl (.inl s) c (Option.some.inj h4).symm
      · cases h4
  · cases h2
end
section
variable {X : Cx} {a b : Expr} {ma mb : ME} {p p1 p2 pos py : Pos} {is : List Nat}
theorem iE_sortedSetI (hc : X.calm = true) (hg : Gl X "sorted") (hm : X.mg "sorted" = none) (hg' : Gl X "set") (hm' : X.mg "set" = none) (ha : PE X a (tI (zn X) ma))
    (hs : starEach [a] X.env = (false, eval a X.env) :: starEach [] X.env := by rfl) : PE X (.Call (.Name "sorted" p) [.Call (.Name "set" p1) [a] [] p2] [] pos) (tI (zn X) (mSortedSetI ma)) :=
  pe_mono (pe_callB (cr_sortedQI hc) hg hm (by rfl) (pa_cons (pe_callTy (cr_setK hc) hg' hm' (by rfl) (pa_cons ha pa_nil hs) (by decide) (by decide) hs (by rfl)) pa_nil) (by decide) (by decide) (by rfl) (by rfl)) fun σ H Q => re_sortedSetI
/-! x[::-1] -/
def oRev : RV → Option PV
  | .d (.list ds) => some (.new (.lst ds.reverse))
  | _ => none
theorem re_rev {Z : Zn} {σ : L2.St} {H : Hp} {a : ME} {Q : VK} (h : tI Z (m1 oRev a) σ H Q) : tRevL Z.K (tI Z a) (tIO Z (mP (m1 oNeg (mC (.int 1))))) σ H Q := by
  obtain ⟨B, Hb, env, pv, env', st, e, q⟩ := h
  simp only [m1, Option.bind_eq_some_iff] at e
  obtain ⟨⟨x, e1⟩, ha, r, h1, p, h2, h3⟩ := e
  cases h3
  refine ⟨B, Hb, env, x, _, st, ha, fun v Hb1 H1 g1 rv => ⟨B, Hb1, _, some (-1), _, g1.st, rfl, fun Hb2 H2 g2 => ⟨rfl, ?_⟩⟩⟩
  have rv1 := rv.keep (fun p hp => own_some st p (g1.ow p hp)) g2.ny
  have w := rv1.rd g2.st h1
  unfold oRev at h2
  split at h2
  · cases w with
    | lst s t =>
      cases h2
      rename_i a0 xs0
      refine ⟨_, _, rfl, s, fun p hp => ?_⟩
      have n := Nx.newOwn (o := .lst xs0.reverse) g2.st.sub hp
      exact q _ _ _ ((g1.trans g2).nx n) (.new ((g1.trans g2).ny.back p hp) (g2.st.sub.free hp) (.lst upd_same (DpAll.reverse t)))
  · cases h2
theorem iE_rev {kk : Nat} (ha : PE X a (tI (zn X) ma)) : PE X (.Subscript a (.Slice none none (some (.UnaryOp .USub (.Constant (.int 1) kk p) p1)) p2) pos) (tI (zn X) (m1 oRev ma)) :=
  pe_mono (pe_revL ha (iO_some (iE_neg iE_int))) fun σ H Q => re_rev
/-! t.index(x) -/
def idxOf (ys : List Str) (z : Str) : Option Nat := ys.findIdx? fun y => decide (y = z)
def mIdx (a b : ME) : ME := fun env => (a env).bind fun x => match x.1 with
  | .d (.tuple ds) => (strsOf ds).bind fun ys => (b x.2).bind fun y => match y.1 with
    | .d (.str z) => (idxOf ys z).bind fun j => some (.d (.int (j : Nat)), y.2)
    | _ => none
  | _ => none
theorem re_idx {Z : Zn} {σ : L2.St} {H : Hp} {a b : ME} {Q : VK} (h : tI Z (mIdx a b) σ H Q) : tIdx Z.K (tI Z a) (tIA Z (mCons b mNil)) σ H Q := by
  obtain ⟨B, Hb, env, pv, env', st, e, q⟩ := h
  simp only [mIdx, Option.bind_eq_some_iff] at e
  obtain ⟨⟨x, e1⟩, ha, e⟩ := e
  split at e
  · rename_i ds hx
    have hx' : x = _ := hx
    subst hx'
    simp only [Option.bind_eq_some_iff] at e
    obtain ⟨ys, h1, ⟨y, e2⟩, hb, e⟩ := e
    split at e
    · rename_i z hy
      have hy' : y = _ := hy
      subst hy'
      simp only [Option.bind_eq_some_iff] at e
      obtain ⟨j, h2, h3⟩ := e
      cases h3
      have hd := strsOf_eq h1
      subst hd
      refine ⟨B, Hb, env, _, _, st, ha, fun v Hb1 H1 g1 rv => ?_⟩
      cases rv with
      | d w => cases w with
        | tup s t n =>
          have nd := n (by simp [isS])
          have hv := DpAll.strs_inv t
          subst hv
          refine ⟨⟨_, _, rfl, sqt_ex g1.st.sub s, nd.ex g1.st.sub⟩, B, Hb1, e1, [.d (.str z)], _, g1.st, by simp [mCons, mNil, hb]; rfl, fun vs ps Hb2 H2 g2 rvs => ?_⟩
          cases rvs with
          | d w2 t2 =>
            cases t2
            cases w2
            obtain ⟨hj, hz, hno⟩ := List.findIdx?_eq_some_iff_getElem.mp h2
            refine ⟨_, ys, z, j, rfl, rfl, sqt_ex (g2.ny.kb.trans g2.st.sub) s, ?_, fun m hm hq => ?_, q _ Hb2 H2 (g1.trans g2) (.d (.int _))⟩
            · rw [List.getElem?_eq_getElem hj, of_decide_eq_true hz]
            · have hm' := hno m hm
              have hlt : m < ys.length := Nat.lt_trans hm hj
              rw [List.getElem?_eq_getElem hlt] at hq
              simp [Option.some.inj hq] at hm'
    · cases e
  · cases e
theorem iE_idx {apos cpos : Pos} (ha : PE X a (tI (zn X) ma)) (hb : PE X b (tI (zn X) mb))
    (hbase : attributeBase a "index" X.env (eval a X.env) = eval a X.env := by rfl)
    (hfew : ((backTo cpos (starEach [b] X.env)).all (fun x => !x.1) && (backToKw cpos (keywordEach [] X.env)).all (fun x => x.1.isSome)
      && decide (([b] : List Expr).length + ([] : List Keyword).length + (if ([] : List Keyword).isEmpty then 0 else 1) < 30)) = true := by rfl)
    (hline : (apos.endLine == cpos.line) = true := by rfl) (hs : starEach [b] X.env = (false, eval b X.env) :: starEach [] X.env := by rfl) (hp : (backTo cpos (starEach [] X.env)).any (·.1) = false := by rfl) :
    PE X (.Call (.Attribute a "index" apos) [b] [] cpos) (tI (zn X) (mIdx ma mb)) := pe_mono (pe_tupIdx ha (iA_cons hb iA_nil hs) hbase hfew hline hs hp) fun σ H Q => re_idx
/-! list(range(n)) -/
def mListR (a : ME) : ME := fun env => (a env).bind fun x => match x.1 with
  | .d (.int n) => if 0 ≤ n ∧ n ≤ 16777216 then some (.new (.lst (rangeD 0 n.toNat)), x.2) else none
  | _ => none
theorem re_listR {Z : Zn} {σ : L2.St} {H : Hp} {a : ME} {Q : VK} (h : tI Z (mListR a) σ H Q) : tLstRg (tRg1 (tI Z a)) σ H Q := by
  obtain ⟨B, Hb, env, pv, env', st, e, q⟩ := h
  simp only [mListR, Option.bind_eq_some_iff] at e
  obtain ⟨⟨x, e1⟩, ha, e⟩ := e
  split at e
  · rename_i n hx
    have hx' : x = _ := hx
    subst hx'
    split at e
    · rename_i c
      cases e
      refine ⟨B, Hb, env, _, _, st, ha, fun v Hb1 H1 g1 rv => ?_⟩
      cases rv with
      | d w =>
        cases w
        refine ⟨n, rfl, RgOk.of_le (by decide) c.2 (by decide) c.1, fun p hp => ?_⟩
        have n1 := Nx.newOwn (o := .lst (rgV 0 n)) g1.st.sub hp
        refine q _ _ _ (g1.nx n1) (.new (g1.ny.back p hp) (g1.st.sub.free hp) (.lst upd_same ?_))
        have e1 : rgV 0 n = ((List.range n.toNat).map fun i : Nat => (0 : Int) + (i : Int)).map V.int := by
          unfold rgV
          rw [List.map_map, Int.sub_zero]
          rfl
        have e2 : rangeD 0 n.toNat = ((List.range n.toNat).map fun i : Nat => (0 : Int) + (i : Int)).map PyData.int := by
          unfold rangeD
          rw [List.map_map]
          rfl
        rw [e1, e2]
        exact DpAll.ints _
    · cases e
  · cases e
theorem iE_listR (hc : X.calm = true) (hg : Gl X "list") (hm : X.mg "list" = none) (hg' : Gl X "range") (hm' : X.mg "range" = none) (ha : PE X a (tI (zn X) ma))
    (hs : starEach [a] X.env = (false, eval a X.env) :: starEach [] X.env := by rfl) (hs2 : starEach [.Call (.Name "range" p1) [a] [] p2] X.env = (false, eval (.Call (.Name "range" p1) [a] [] p2) X.env) :: starEach [] X.env := by rfl) : PE X (.Call (.Name "list" p) [.Call (.Name "range" p1) [a] [] p2] [] pos) (tI (zn X) (mListR ma)) :=
  pe_mono (pe_listRg hc hg hm (prg_1 hg' hm' ha hs) hs2) fun σ H Q => re_listR
/-! a, b = f(..): new lists among what comes back are never changed -/
def frT : PV → PV
  | .tup xs => .tup (fzIO (xs.map fun _ => false) xs)
  | x => x
@[simp] def mAsgT (is : List Nat) (a : ME) : MS := fun env => (a env).bind fun x => (mNames is (frT x.1) x.2).bind fun e => some (.nx e)
theorem rs_asgT {Z : Zn} {is : List Nat} {a : ME} {D : Ends} {σ : L2.St} {H : Hp} (h : tS Z (mAsgT is a) D σ H) : tAsg (tI Z a) (tG Z is (mNames is)) D σ H := by
  obtain ⟨B, Hb, env, r, st, e, q⟩ := h
  simp only [mAsgT, Option.bind_eq_some_iff] at e
  obtain ⟨⟨x, e1⟩, ha, e2, h1, h2⟩ := e
  cases h2
  refine ⟨B, Hb, env, x, e1, st, ha, fun v Hb' H' g1 rv => ?_⟩
  have plain : frT x = x → tG Z is (mNames is) v σ H' D.nx := fun hx => by
    rw [hx] at h1
    exact ⟨B, Hb', H, e1, x, e2, g1.st, fun p hp => own_some st p (g1.ow p hp), st.h0, rv, h1, fun σ' s _ _ => q σ' Hb' H' s g1.ny.kb⟩
  cases x with
  | d y => exact plain rfl
  | slot j => exact plain rfl
  | new o => exact plain rfl
  | tup xs =>
    cases rv with
    | tup s t =>
      obtain ⟨Hb2, ps2, k2, z2, rv2, s2⟩ := t.fzIO g1.st.sub (ios := xs.map fun _ => false)
      have g2 := g1.know st k2
      exact ⟨B, Hb2, H, e1, _, e2, g2.st, fun p hp => own_some st p (g2.ow p hp), st.h0, .tup (sqt_ex k2.kb s) rv2, h1, fun σ' s _ _ => q σ' Hb2 H' s g2.ny.kb⟩
theorem iS_asgT {tg : Expr} (he : PE X a (tI (zn X) ma)) (hg : PG X tg (tG (zn X) is (mNames is))) (hs : swapsWithSole [tg] a pos.line X.env = pure false := by rfl) (hw : swappedStores [tg] a X.env = pure none := by rfl) (h1 : (assignEach [tg] X.env).map (·.2) = [assign tg X.env] := by rfl) :
    PS X (.Assign [tg] a pos) (tS (zn X) (mAsgT is ma)) := ps_mono (ps_asg he hg hs hw h1) fun D σ H => rs_asgT
end
section
variable {X : Cx} {e : Expr} {st : Stmt} {Z : Zn} {x y : ME} {is : List Nat}
theorem gSSI (h : PE X e (tI Z (mSortedSetI x))) : PE X e (tI Z (mSortedSetI x)) := h
theorem gIdx (h : PE X e (tI Z (mIdx x y))) : PE X e (tI Z (mIdx x y)) := h
theorem gLR (h : PE X e (tI Z (mListR x))) : PE X e (tI Z (mListR x)) := h
theorem gAsT (h : PS X st (tS Z (mAsgT is x))) : PS X st (tS Z (mAsgT is x)) := h
end
end Ol
namespace Ol
open PySem PySem.Spec PyProof.Rows L2
section
variable {X : Cx}
/-! x is True, x is False -/
theorem op_isB : OpR X (compareOp .Is) (fun x y H Q => ∃ a b, x = .bl a ∧ y = .bl b ∧ Q (.bl (a == b)) H) := by
  intro pins s σ H x y v u Q I rx ry h
  obtain ⟨a, b, rfl, rfl, q⟩ := h
  cases rx
  cases ry
  exact wpAny_is_plain rfl (fin_bl I q (by cases a <;> cases b <;> rfl))
theorem op_notB : OpR X (compareOp .IsNot) (fun x y H Q => ∃ a b, x = .bl a ∧ y = .bl b ∧ Q (.bl (!(a == b))) H) := by
  intro pins s σ H x y v u Q I rx ry h
  obtain ⟨a, b, rfl, rfl, q⟩ := h
  cases rx
  cases ry
  exact wpAny_isNot_plain rfl (fin_bl I q (by cases a <;> cases b <;> rfl))
def oIsB : RV → RV → Option PV
  | .d (.bool a), .d (.bool b) => some (bD (a == b))
  | _, _ => none
def oNotB : RV → RV → Option PV
  | .d (.bool a), .d (.bool b) => some (bD (!(a == b)))
  | _, _ => none
variable {Z : Zn}
theorem s_isB : Op2 Z (fun x y H Q => ∃ a b, x = .bl a ∧ y = .bl b ∧ Q (.bl (a == b)) H) oIsB := by
  intro Hb H x y dx dy pv e rx ry h Q q
  unfold oIsB at h
  split at h
  · cases rx
    cases ry
    cases h
    exact ⟨_, _, rfl, rfl, q _ _ _ (.refl e) (vrB _)⟩
  · cases h
theorem s_notB : Op2 Z (fun x y H Q => ∃ a b, x = .bl a ∧ y = .bl b ∧ Q (.bl (!(a == b))) H) oNotB := by
  intro Hb H x y dx dy pv e rx ry h Q q
  unfold oNotB at h
  split at h
  · cases rx
    cases ry
    cases h
    exact ⟨_, _, rfl, rfl, q _ _ _ (.refl e) (vrB _)⟩
  · cases h
end
end Ol
set_option Elab.async false
set_option linter.all false
set_option maxRecDepth 100000
set_option maxHeartbeats 4000000
/-! own: zip's next, whatever zip keeps of the tuple that it gave out: none, one that lives, one that does not -/
namespace PySem
open Sem (wp)
/-- what zip keeps of the tuple it gave out -/
def ZF (f0 : Value) (f : Bool) : Prop := f0 = .none ∧ f = false ∨ ∃ T : Addr, f0 = rawInt T
abbrev IsZipG (h : Heap) (z TI TO : Addr) (f0 : Value) (f : Bool) : Prop :=
  h.get? z = some { cls := .type "zip", dict := none, data := .fields #[f0, .bool f, .bool false, .ref TI, .ref TO], slots := #[] }
/-- zip at its k-th turn -/
def ZS (z TI TO i1 i2 l1 l2 : Addr) (k : Nat) (h : Heap) : Prop :=
  ∃ f0 f a b, ZF f0 f ∧ IsZipG h z TI TO f0 f ∧ IsPair h TI (.ref i1) (.ref i2) ∧ IsPair h TO a b ∧ h.IsListIter i1 l1 k ∧ h.IsListIter i2 l2 k
theorem ZS.keep {z TI TO i1 i2 l1 l2 : Addr} {k : Nat} {h h' : Heap} (q : ZS z TI TO i1 i2 l1 l2 k h) (u : ∀ b, b = z ∨ b = TI ∨ b = TO ∨ b = i1 ∨ b = i2 → ∀ o, h.get? b = some o → h'.get? b = some o) : ZS z TI TO i1 i2 l1 l2 k h' := by
  obtain ⟨f0, f, a, b, c0, c1, c2, c3, c4, c5⟩ := q
  exact ⟨f0, f, a, b, c0, u z (.inl rfl) _ c1, u TI (.inr (.inl rfl)) _ c2, u TO (.inr (.inr (.inl rfl))) _ c3, c4.at fun o y => u i1 (.inr (.inr (.inr (.inl rfl)))) o y, c5.at fun o y => u i2 (.inr (.inr (.inr (.inr rfl)))) o y⟩
section
variable {prog : Program} {w : World} {A : Around} {E : Value → Shared → Prop} {s : Shared} {z TI TO i1 i2 l1 l2 T : Addr} {k : Nat} {xs ys : Array Value} {x y a b : Value} {f : Bool}
/-- its tuple does not live any more: the record is free -/
theorem ez_dead {Q : Bool → Shared → Prop} (c1 : IsZipG s.heap z TI TO (rawInt T) f) (no : s.heap.get? T = none) (q : Q true s) : wpAny (model prog w) A (Builtin.SmallTypes.ownedTupleIsFree (.ref z)) Q E s := by
  unfold Builtin.SmallTypes.ownedTupleIsFree
  refine wpAny_bind (wpAny_field c1 rfl (x := rawInt T) rfl ?_)
  show wpAny _ _ (loadIfAlive T >>= _) _ _ _
  have live : ∀ {Q' : Option Obj → Shared → Prop}, Q' none s → wpAny (model prog w) A (loadIfAlive T) Q' E s := fun {Q'} r => by
    have r' : Q' (s.heap.get? T) s := by rw [no]; exact r
    exact fun _ _ _ => r'
  refine wpAny_bind (live ?_)
  simp only [Option.isNone_none, if_true]
  exact wpAny_pure q
theorem ez_item_dead {Q : Value → Shared → Prop} (D : ZipApart z TI TO i1 i2 l1 l2) (c1 : IsZipG s.heap z TI TO (rawInt T) f) (no : s.heap.get? T = none) (c2 : IsPair s.heap TI (.ref i1) (.ref i2)) (c3 : IsPair s.heap TO a b)
    (c4 : s.heap.IsListIter i1 l1 k) (c5 : s.heap.IsListIter i2 l2 k) (g1 : s.heap.IsList l1 xs) (g2 : s.heap.IsList l2 ys) (e1 : xs[k]? = some x) (e2 : ys[k]? = some y)
    (q : ∀ h', IsZip h' z TI TO (rawInt s.heap.objs.size) → IsPair h' TO x y → h'.IsListIter i1 l1 (k + 1) → h'.IsListIter i2 l2 (k + 1) → IsPair h' s.heap.objs.size x y → h'.objs.size = s.heap.objs.size + 1 →
      (∀ c o, c ≠ z → c ≠ TO → c ≠ i1 → c ≠ i2 → s.heap.get? c = some o → h'.get? c = some o) → Q (.ref s.heap.objs.size) { s with heap := h' }) :
    wpAny (model prog w) A (Builtin.«zip.__next__» ⟨[.ref z], []⟩) (fun fin s' => ∃ v, fin = .done (.ret v) ∧ Q v s') E s := by
  show wpAny _ _ (field (.ref z) 2 >>= _) _ _ _; refine wpAny_bind (wpAny_field c1 rfl (x := .bool false) rfl ?_)
  show wpAny _ _ (field (.ref z) 3 >>= _) _ _ _; refine wpAny_bind (wpAny_field c1 rfl (x := .ref TI) rfl (wpAny_bind (wpAny_seqItems c2 rfl ?_)))
  show wpAny _ _ (Builtin.SmallTypes.ownedTupleIsFree (.ref z) >>= _) _ _ _; refine wpAny_bind (ez_dead c1 no ?_)
  simp only [if_true]
  refine wpAny_bind (wpAny_rule (wpAny_bind (wpAny_field c1 rfl (x := .ref TO) rfl (wpAny_bind (wpAny_setField_rec c1 (by simp) fun ha za sa => ?_)))))
  have za1 : IsZipG ha z TI TO .ellipsis f := za
  refine wpAny_bind ?_
  simp only [List.zipIdx_cons, List.zipIdx_nil, List.forIn_cons, List.forIn_nil]
  refine wpAny_bind (wpAny_bind (wpAny_onRaise ?_)); show wpAny _ _ (Builtin.SmallTypes.nextOf (.ref i1) >>= _) _ _ _
  refine wpAny_bind (wpAny_nextOf_list_item (c4.extBut sa.extBut D.i1z) (g1.extBut sa.extBut D.l1z) e1 fun hb ib sb => wpAny_pure ?_)
  have tb : IsPair hb TO a b := sb.extBut _ _ D.TOi1 (sa.extBut _ _ D.TOz c3)
  refine wpAny_bind (wpAny_seqItems tb rfl (wpAny_bind (wpAny_updateSeq_pair tb fun hc tc sc => wpAny_bind (wpAny_letGo (wpAny_pure ?_)))))
  have tc1 : IsPair hc TO x b := tc
  refine wpAny_bind (wpAny_bind (wpAny_onRaise ?_)); show wpAny _ _ (Builtin.SmallTypes.nextOf (.ref i2) >>= _) _ _ _
  have c5c : hc.IsListIter i2 l2 k := ((c5.extBut sa.extBut D.i2z).extBut sb.extBut D.i12.symm).extBut sc.extBut D.TOi2.symm
  have g2c : hc.IsList l2 ys := ((g2.extBut sa.extBut D.l2z).extBut sb.extBut D.l2i1).extBut sc.extBut D.l2TO
  refine wpAny_bind (wpAny_nextOf_list_item c5c g2c e2 fun hd jd sd => wpAny_pure ?_)
  have td : IsPair hd TO x b := sd.extBut _ _ D.TOi2 tc1
  refine wpAny_bind (wpAny_seqItems td rfl (wpAny_bind (wpAny_updateSeq_pair td fun he te se => wpAny_bind (wpAny_letGo (wpAny_pure (wpAny_pure ?_))))))
  have te1 : IsPair he TO x y := te
  refine wpAny_bind (wpAny_seqItems te1 rfl (wpAny_bind (wpAny_newTuple ?_)))
  have n1 : he.objs.size = s.heap.objs.size := by rw [se.1, sd.1, sc.1, sb.1, sa.1]
  have kp : ∀ c o, c ≠ TO → c ≠ i1 → c ≠ i2 → ha.get? c = some o → he.get? c = some o := fun c o u1 u2 u3 r => se.extBut _ _ u1 (sd.extBut _ _ u3 (sc.extBut _ _ u1 (sb.extBut _ _ u2 r)))
  have ze : IsZipG he z TI TO .ellipsis f := kp _ _ D.TOz.symm D.i1z.symm D.i2z.symm za1
  have ie : he.IsListIter i1 l1 (k + 1) := ((ib.extBut sc.extBut D.TOi1.symm).extBut sd.extBut D.i12).extBut se.extBut D.TOi1.symm
  have je : he.IsListIter i2 l2 (k + 1) := jd.extBut se.extBut D.TOi2.symm
  have lt : z < he.objs.size := Heap.lt_size ze
  show wpAny _ _ (Builtin.SmallTypes.ownedTupleHandOut (.ref z) (.ref he.objs.size) >>= _) _ _ _
  refine wpAny_bind ?_
  unfold Builtin.SmallTypes.ownedTupleHandOut
  have zf : IsZipG (he.push { cls := .type "tuple", data := .seq #[x, y] }) z TI TO .ellipsis f := Heap.get?_push_of_some _ ze
  refine wpAny_bind (wpAny_setField_rec zf (by simp) fun hg zg sg => ?_)
  have zg1 : IsZipG hg z TI TO (rawInt he.objs.size) f := zg
  refine wpAny_setField_rec zg1 (by simp) fun hh zh sh => wpAny_pure ⟨_, rfl, ?_⟩
  have zh1 : IsZip hh z TI TO (rawInt he.objs.size) := zh
  have up : ∀ c o, c ≠ z → he.get? c = some o → hh.get? c = some o := fun c o u r => sh.extBut _ _ u (sg.extBut _ _ u (Heap.get?_push_of_some _ r))
  have th : IsPair hh he.objs.size x y := sh.extBut _ _ (Nat.ne_of_gt lt) (sg.extBut _ _ (Nat.ne_of_gt lt) (Heap.get?_push_size _ rfl))
  have n2 : hh.objs.size = he.objs.size + 1 := by rw [sh.1, sg.1, Heap.size_push]
  rw [n1] at zh1 th n2
  show Q (.ref he.objs.size) _
  rw [n1]
  exact q hh zh1 (up _ _ D.TOz te1) (ie.at fun o r => up _ o D.i1z r) (je.at fun o r => up _ o D.i2z r) th n2 fun c o u1 u2 u3 u4 r => up c o u1 (kp c o u2 u3 u4 (sa.extBut _ _ u1 r))
theorem ez_end_dead {Q : Fin → Shared → Prop} (hh : A.handled = none) (D : ZipApart z TI TO i1 i2 l1 l2) (c1 : IsZipG s.heap z TI TO (rawInt T) f) (no : s.heap.get? T = none) (c2 : IsPair s.heap TI (.ref i1) (.ref i2)) (c3 : IsPair s.heap TO a b)
    (c4 : s.heap.IsListIter i1 l1 k) (c5 : s.heap.IsListIter i2 l2 k) (g1 : s.heap.IsList l1 xs) (g2 : s.heap.IsList l2 ys) (e0 : xs[k]? = none ∨ ys[k]? = none)
    (q : ∀ h' e, (∀ c o, c ≠ z → c ≠ TO → c ≠ i1 → c ≠ i2 → s.heap.get? c = some o → h'.get? c = some o) → (∃ o, h'.get? e = some o ∧ o.cls = .type "StopIteration") → E (.ref e) { s with heap := h' }) :
    wpAny (model prog w) A (Builtin.«zip.__next__» ⟨[.ref z], []⟩) Q E s := by
  show wpAny _ _ (field (.ref z) 2 >>= _) _ _ _; refine wpAny_bind (wpAny_field c1 rfl (x := .bool false) rfl ?_)
  show wpAny _ _ (field (.ref z) 3 >>= _) _ _ _; refine wpAny_bind (wpAny_field c1 rfl (x := .ref TI) rfl (wpAny_bind (wpAny_seqItems c2 rfl ?_)))
  show wpAny _ _ (Builtin.SmallTypes.ownedTupleIsFree (.ref z) >>= _) _ _ _; refine wpAny_bind (ez_dead c1 no ?_)
  simp only [if_true]
  refine wpAny_bind (wpAny_rule (wpAny_bind (wpAny_field c1 rfl (x := .ref TO) rfl (wpAny_bind (wpAny_setField_rec c1 (by simp) fun ha za sa => ?_)))))
  have za1 : IsZipG ha z TI TO .ellipsis f := za
  refine wpAny_bind ?_
  simp only [List.zipIdx_cons, List.zipIdx_nil, List.forIn_cons, List.forIn_nil]
  refine wpAny_bind (wpAny_bind (wpAny_onRaise ?_)); show wpAny _ _ (Builtin.SmallTypes.nextOf (.ref i1) >>= _) _ _ _
  have out : ∀ (h2 : Heap) (e : Addr), (∀ c o, c ≠ TO → c ≠ i1 → c ≠ i2 → ha.get? c = some o → h2.get? c = some o) → (∃ o, h2.get? e = some o ∧ o.cls = .type "StopIteration") →
      wpAny (model prog w) A (setField (.ref z) 0 .none) (fun _ s' => E (.ref e) s') E { s with heap := h2 } := fun h2 e kp ⟨o, o1, o2⟩ => by
    have z2 : IsZipG h2 z TI TO .ellipsis f := kp _ _ D.TOz.symm D.i1z.symm D.i2z.symm za1
    have ne : e ≠ z := fun r => by
      subst r
      rw [z2] at o1
      cases o1
      simp at o2
    exact wpAny_setField_rec z2 (by simp) fun h3 _ s3 => q h3 e (fun c o u1 u2 u3 u4 r => s3.extBut _ _ u1 (kp c o u2 u3 u4 (sa.extBut _ _ u1 r))) ⟨o, s3.extBut _ _ ne o1, o2⟩
  cases e1 : xs[k]? with
  | none =>
    exact wpAny_bind (wpAny_nextOf_list_end hh (c4.extBut sa.extBut D.i1z) (g1.extBut sa.extBut D.l1z) e1 fun h2 e sb r => out h2 e (fun c o _ u2 _ r => sb _ _ u2 r) r)
  | some x =>
    have e2 : ys[k]? = none := e0.resolve_left (by rw [e1]; simp)
    refine wpAny_bind (wpAny_nextOf_list_item (c4.extBut sa.extBut D.i1z) (g1.extBut sa.extBut D.l1z) e1 fun hb ib sb => wpAny_pure ?_)
    have tb : IsPair hb TO a b := sb.extBut _ _ D.TOi1 (sa.extBut _ _ D.TOz c3)
    refine wpAny_bind (wpAny_seqItems tb rfl (wpAny_bind (wpAny_updateSeq_pair tb fun hc tc sc => wpAny_bind (wpAny_letGo (wpAny_pure ?_)))))
    refine wpAny_bind (wpAny_bind (wpAny_onRaise ?_)); show wpAny _ _ (Builtin.SmallTypes.nextOf (.ref i2) >>= _) _ _ _
    have c5c : hc.IsListIter i2 l2 k := ((c5.extBut sa.extBut D.i2z).extBut sb.extBut D.i12.symm).extBut sc.extBut D.TOi2.symm
    have g2c : hc.IsList l2 ys := ((g2.extBut sa.extBut D.l2z).extBut sb.extBut D.l2i1).extBut sc.extBut D.l2TO
    exact wpAny_bind (wpAny_nextOf_list_end hh c5c g2c e2 fun h2 e sd r => out h2 e (fun c o u1 u2 u3 r => sd _ _ u3 (sc.extBut _ _ u1 (sb.extBut _ _ u2 r))) r)
end
end PySem
set_option Elab.async false
set_option linter.all false
set_option maxRecDepth 100000
set_option maxHeartbeats 4000000
namespace PySem
open Sem (wp)
section
variable {prog : Program} {w : World} {A : Around} {E : Value → Shared → Prop} {s : Shared} {z TI TO i1 i2 l1 l2 e : Addr} {k : Nat} {xs ys : Array Value} {x y : Value}
theorem ez_nextOf {Q : Value → Shared → Prop} (D : ZipApart z TI TO i1 i2 l1 l2) (q : ZS z TI TO i1 i2 l1 l2 k s.heap) (g1 : s.heap.IsList l1 xs) (g2 : s.heap.IsList l2 ys) (e1 : xs[k]? = some x) (e2 : ys[k]? = some y)
    (hQ : ∀ h', ZS z TI TO i1 i2 l1 l2 (k + 1) h' → IsPair h' s.heap.objs.size x y → h'.objs.size = s.heap.objs.size + 1 →
      (∀ c o, c ≠ z → c ≠ TO → c ≠ i1 → c ≠ i2 → s.heap.get? c = some o → h'.get? c = some o) → Q (.ref s.heap.objs.size) { s with heap := h' }) :
    wpAny (model prog w) A (Builtin.SmallTypes.nextOf (.ref z)) Q E s := by
  obtain ⟨f0, f, a, b, c0, c1, c2, c3, c4, c5⟩ := q
  have ty : s.TypeIs (.ref z) "zip" := ⟨_, c1, rfl⟩
  unfold Builtin.SmallTypes.nextOf
  refine wpAny_bind (wpAny_callSpecial?_slot (name := Str.ofString "__next__") ty F.slot_zip_next (wpAny_call_entry F.slot_zip_next ty F.entry_zip_next ?_ (F.args_zip_next_1 _)))
  have free : ∀ h', IsZip h' z TI TO (rawInt s.heap.objs.size) → IsPair h' TO x y → h'.IsListIter i1 l1 (k + 1) → h'.IsListIter i2 l2 (k + 1) → IsPair h' s.heap.objs.size x y → h'.objs.size = s.heap.objs.size + 1 →
      (∀ c o, c ≠ z → c ≠ TO → c ≠ i1 → c ≠ i2 → s.heap.get? c = some o → h'.get? c = some o) → Q (.ref s.heap.objs.size) { s with heap := h' } :=
    fun h' u1 u2 u3 u4 u5 u6 u7 => hQ h' ⟨_, _, _, _, .inr ⟨_, rfl⟩, u1, u7 TI _ D.TIz D.TITO D.TIi1 D.TIi2 c2, u2, u3, u4⟩ u5 u6 u7
  rcases c0 with ⟨rfl, rfl⟩ | ⟨T, rfl⟩
  · exact zip_next_item D c1 c2 c3 c4 c5 g1 g2 e1 e2 fun h' u1 u2 u3 u4 u5 u6 u7 => wpAny_pure (free h' u1 u2 u3 u4 u5 u6 u7)
  · cases no : s.heap.get? T with
    | none => exact ez_item_dead D c1 no c2 c3 c4 c5 g1 g2 e1 e2 fun h' u1 u2 u3 u4 u5 u6 u7 => wpAny_pure (free h' u1 u2 u3 u4 u5 u6 u7)
    | some o => exact zip_next_item_held D c1 no c2 c4 c5 g1 g2 e1 e2 fun h' u1 u3 u4 u5 u6 u7 => wpAny_pure (hQ h' ⟨_, _, _, _, .inr ⟨_, rfl⟩, u1, u7 _ _ D.TIz D.TIi1 D.TIi2 c2, u7 _ _ D.TOz D.TOi1 D.TOi2 c3, u3, u4⟩ u5 u6 fun c o m1 _ m2 m3 r => u7 c o m1 m2 m3 r)
theorem ez_nextOf_end {Q : Value → Shared → Prop} (hh : A.handled = none) (D : ZipApart z TI TO i1 i2 l1 l2) (q : ZS z TI TO i1 i2 l1 l2 k s.heap) (g1 : s.heap.IsList l1 xs) (g2 : s.heap.IsList l2 ys) (e0 : xs[k]? = none ∨ ys[k]? = none)
    (hE : ∀ h' e, (∀ c o, c ≠ z → c ≠ TO → c ≠ i1 → c ≠ i2 → s.heap.get? c = some o → h'.get? c = some o) → (∃ o, h'.get? e = some o ∧ o.cls = .type "StopIteration") → E (.ref e) { s with heap := h' }) :
    wpAny (model prog w) A (Builtin.SmallTypes.nextOf (.ref z)) Q E s := by
  obtain ⟨f0, f, a, b, c0, c1, c2, c3, c4, c5⟩ := q
  have ty : s.TypeIs (.ref z) "zip" := ⟨_, c1, rfl⟩
  unfold Builtin.SmallTypes.nextOf
  refine wpAny_bind (wpAny_callSpecial?_slot (name := Str.ofString "__next__") ty F.slot_zip_next (wpAny_call_entry F.slot_zip_next ty F.entry_zip_next ?_ (F.args_zip_next_1 _)))
  rcases c0 with ⟨rfl, rfl⟩ | ⟨T, rfl⟩
  · exact zip_next_end hh D c1 c2 c3 c4 c5 g1 g2 e0 hE
  · cases no : s.heap.get? T with
    | none => exact ez_end_dead hh D c1 no c2 c3 c4 c5 g1 g2 e0 hE
    | some o => exact zip_next_end_held hh D c1 no c2 c4 c5 g1 g2 e0 fun h' e u r => hE h' e (fun c o m1 _ m2 m3 r => u c o m1 m2 m3 r) r
end
end PySem
set_option Elab.async false
set_option linter.all false
set_option maxRecDepth 100000
set_option maxHeartbeats 4000000
namespace PySem
open Sem (wp)
section
variable {prog : Program} {w : World} {A : Around} {E : Value → Shared → Prop} {s : Shared} {z TI TO i1 i2 l1 l2 e : Addr} {k : Nat} {xs ys : Array Value} {x y : Value} {c : Int} {old : Value}
structure EzNe (e z TI TO i1 i2 : Addr) : Prop where
  z : e ≠ z
  TI : e ≠ TI
  TO : e ≠ TO
  i1 : e ≠ i1
  i2 : e ≠ i2
theorem EzNe.of (n : EzNe e z TI TO i1 i2) {b : Addr} (h : b = z ∨ b = TI ∨ b = TO ∨ b = i1 ∨ b = i2) : b ≠ e := by
  intro q
  subst q
  rcases h with h | h | h | h | h
  · exact n.z h
  · exact n.TI h
  · exact n.TO h
  · exact n.i1 h
  · exact n.i2 h
theorem ez_enum_next {Q : Value → Shared → Prop} (D : ZipApart z TI TO i1 i2 l1 l2) (n : EzNe e z TI TO i1 i2) (he : IsEnum s.heap e z c old) (q : ZS z TI TO i1 i2 l1 l2 k s.heap) (g1 : s.heap.IsList l1 xs) (g2 : s.heap.IsList l2 ys) (e1 : xs[k]? = some x) (e2 : ys[k]? = some y)
    (hQ : ∀ h', IsEnumOut h' e z (c + 1) (.ref s.heap.objs.size) (s.heap.objs.size + 1) → ZS z TI TO i1 i2 l1 l2 (k + 1) h' → IsPair h' s.heap.objs.size x y →
      h'.get? (s.heap.objs.size + 1) = some { cls := .type "tuple", data := .seq #[.int c s.toks, .ref s.heap.objs.size] } → h'.objs.size = s.heap.objs.size + 2 →
      (∀ b o, b ≠ e → b ≠ z → b ≠ TO → b ≠ i1 → b ≠ i2 → s.heap.get? b = some o → h'.get? b = some o) → Q (.ref (s.heap.objs.size + 1)) { s with heap := h', toks := s.toks + 1 }) :
    wpAny (model prog w) A (Builtin.«enumerate.__next__» ⟨[.ref e], []⟩) (fun fin s' => ∃ v, fin = .done (.ret v) ∧ Q v s') E s := by
  obtain ⟨hp, gg, dd, tk, os⟩ := s
  show wpAny _ _ (field (.ref e) 2 >>= _) _ _ _
  refine wpAny_bind (wpAny_field he rfl (x := .ref z) rfl (wpAny_bind (ez_nextOf D q g1 g2 e1 e2 fun ha qa pa za ka => ?_)))
  have ea : IsEnum ha e z c old := ka e _ n.z n.TO n.i1 n.i2 he
  show wpAny _ _ (field (.ref e) 3 >>= _) _ _ ⟨ha, gg, dd, tk, os⟩
  refine wpAny_bind (wpAny_field ea rfl (x := rawInt c) rfl ?_)
  show wpAny _ _ (field (.ref e) 4 >>= _) _ _ ⟨ha, gg, dd, tk, os⟩
  refine wpAny_bind (wpAny_field ea rfl (x := .none) rfl ?_)
  show wpAny _ _ (mkInt c >>= _) _ _ ⟨ha, gg, dd, tk, os⟩
  refine wpAny_bind (wpAny_mkInt ?_)
  show wpAny _ _ (setField (.ref e) 3 (rawInt (c + 1)) >>= _) _ _ ⟨ha, gg, dd, tk + 1, os⟩
  refine wpAny_bind (wpAny_setField_rec ea (by simp) fun hb eb sb => ?_)
  have eb1 : IsEnum hb e z (c + 1) old := eb
  have sb1 : Heap.SameBut e ha hb := sb
  show wpAny _ _ (setField (.ref e) 4 .none >>= _) _ _ ⟨hb, gg, dd, tk + 1, os⟩
  refine wpAny_bind (wpAny_setField_rec eb1 (by simp) fun hc ec sc => ?_)
  have ec1 : IsEnum hc e z (c + 1) old := ec
  have sc1 : Heap.SameBut e hb hc := sc
  have zc : hc.objs.size = hp.objs.size + 1 := by rw [sc1.1, sb1.1]; exact za
  show wpAny _ _ (newTuple [.int c tk, .ref hp.objs.size] >>= _) _ _ ⟨hc, gg, dd, tk + 1, os⟩
  refine wpAny_bind (wpAny_newTuple ?_)
  have le : e < hp.objs.size := Heap.lt_size he
  generalize hd0 : hc.push { cls := .type "tuple", data := .seq #[.int c tk, .ref hp.objs.size] } = hd
  have up : ∀ b o, b ≠ e → ha.get? b = some o → hd.get? b = some o := fun b o ne r => by
    rw [← hd0]
    exact Heap.get?_push_of_some _ (sc1.extBut b o ne (sb1.extBut b o ne r))
  have ed : IsEnum hd e z (c + 1) old := by rw [← hd0]; exact Heap.get?_push_of_some _ ec1
  have td : hd.get? (hp.objs.size + 1) = some { cls := .type "tuple", data := .seq #[.int c tk, .ref hp.objs.size] } := by rw [← hd0, ← zc]; exact Heap.get?_push_size _ rfl
  have zd : hd.objs.size = hp.objs.size + 2 := by rw [← hd0, Heap.size_push, zc]
  show wpAny _ _ (Builtin.SmallTypes.ownedTupleIsFree (.ref e) >>= _) _ _ ⟨hd, gg, dd, tk + 1, os⟩
  rw [zc]
  refine wpAny_bind ?_
  unfold Builtin.SmallTypes.ownedTupleIsFree
  refine wpAny_bind (wpAny_field ed rfl (x := .none) rfl (wpAny_pure ?_))
  simp only [if_true]
  refine wpAny_bind (wpAny_rule (wpAny_bind (wpAny_field ed rfl (x := old) rfl (wpAny_bind (wpAny_setField_rec ed (by simp) fun hf ef sf => ?_)))))
  have ef1 : IsEnum hf e z (c + 1) (.ref hp.objs.size) := ef
  have sf1 : Heap.SameBut e hd hf := sf
  show wpAny _ _ (Builtin.SmallTypes.ownedTupleHandOut (.ref e) (.ref (hp.objs.size + 1)) >>= _) _ _ ⟨hf, gg, dd, tk + 1, os⟩
  refine wpAny_bind ?_
  unfold Builtin.SmallTypes.ownedTupleHandOut
  refine wpAny_bind (wpAny_setField_rec ef1 (by simp) fun hg eg sg => ?_)
  have eg1 : IsEnumOut hg e z (c + 1) (.ref hp.objs.size) (hp.objs.size + 1) := eg
  have sg1 : Heap.SameBut e hf hg := sg
  refine wpAny_setField_rec eg1 (by simp) fun hi ei si => ?_
  have ei1 : IsEnumOut hi e z (c + 1) (.ref hp.objs.size) (hp.objs.size + 1) := ei
  have si1 : Heap.SameBut e hg hi := si
  have up2 : ∀ b o, b ≠ e → hd.get? b = some o → hi.get? b = some o := fun b o ne r => si1.extBut b o ne (sg1.extBut b o ne (sf1.extBut b o ne r))
  refine wpAny_bind (wpAny_letGo (wpAny_pure ⟨_, rfl, hQ hi ei1 (qa.keep fun b m o r => up2 b o (n.of m) (up b o (n.of m) r)) ?_ ?_ ?_ ?_⟩))
  · exact up2 _ _ (Nat.ne_of_gt le) (up _ _ (Nat.ne_of_gt le) pa)
  · exact up2 _ _ (Nat.ne_of_gt (Nat.lt_succ_of_lt le)) td
  · rw [si1.1, sg1.1, sf1.1, zd]
  · exact fun b o n1 n2 n3 n4 n5 r => up2 b o n1 (up b o n1 (ka b o n2 n3 n4 n5 r))
theorem ez_pyNext {Q : Option Value → Shared → Prop} (D : ZipApart z TI TO i1 i2 l1 l2) (n : EzNe e z TI TO i1 i2) (he : IsEnum s.heap e z c old) (q : ZS z TI TO i1 i2 l1 l2 k s.heap) (g1 : s.heap.IsList l1 xs) (g2 : s.heap.IsList l2 ys) (e1 : xs[k]? = some x) (e2 : ys[k]? = some y)
    (hQ : ∀ h', IsEnumOut h' e z (c + 1) (.ref s.heap.objs.size) (s.heap.objs.size + 1) → ZS z TI TO i1 i2 l1 l2 (k + 1) h' → IsPair h' s.heap.objs.size x y →
      h'.get? (s.heap.objs.size + 1) = some { cls := .type "tuple", data := .seq #[.int c s.toks, .ref s.heap.objs.size] } → h'.objs.size = s.heap.objs.size + 2 →
      (∀ b o, b ≠ e → b ≠ z → b ≠ TO → b ≠ i1 → b ≠ i2 → s.heap.get? b = some o → h'.get? b = some o) → Q (some (.ref (s.heap.objs.size + 1))) { s with heap := h', toks := s.toks + 1 }) :
    wpAny (model prog w) A (pyNext (.ref e)) Q E s := by
  have ty : s.TypeIs (.ref e) "enumerate" := ⟨_, he, rfl⟩
  unfold pyNext
  exact wpAny_bind (wpAny_attempt (wpAny_callSpecial?_slot (name := Str.ofString "__next__") ty F.slot_enumerate_next (wpAny_call_entry F.slot_enumerate_next ty F.entry_enumerate_next
    (ez_enum_next D n he q g1 g2 e1 e2 fun h' u1 u2 u3 u4 u5 u6 => wpAny_pure (hQ h' u1 u2 u3 u4 u5 u6)) (F.args_enumerate_next_1 _))))
theorem ez_pyNext_end {Q : Option Value → Shared → Prop} (hh : A.handled = none) (D : ZipApart z TI TO i1 i2 l1 l2) (he : IsEnum s.heap e z c old) (q : ZS z TI TO i1 i2 l1 l2 k s.heap) (g1 : s.heap.IsList l1 xs) (g2 : s.heap.IsList l2 ys) (e0 : xs[k]? = none ∨ ys[k]? = none)
    (hQ : ∀ h', (∀ b o, b ≠ z → b ≠ TO → b ≠ i1 → b ≠ i2 → s.heap.get? b = some o → h'.get? b = some o) → Q none { s with heap := h' }) : wpAny (model prog w) A (pyNext (.ref e)) Q E s := by
  have ty : s.TypeIs (.ref e) "enumerate" := ⟨_, he, rfl⟩
  unfold pyNext
  refine wpAny_bind (wpAny_attempt (wpAny_callSpecial?_slot (name := Str.ofString "__next__") ty F.slot_enumerate_next (wpAny_call_entry F.slot_enumerate_next ty F.entry_enumerate_next ?_ (F.args_enumerate_next_1 _))))
  show wpAny _ _ (field (.ref e) 2 >>= _) _ _ _
  refine wpAny_bind (wpAny_field he rfl (x := .ref z) rfl (wpAny_bind (ez_nextOf_end hh D q g1 g2 e0 fun h' b k ⟨o, r1, r2⟩ => ?_)))
  exact wpAny_bind (wpAny_isInstance (T := "StopIteration") (b := true) ⟨o, r1, r2⟩ isSubtype_stop (wpAny_pure (hQ _ k)))
/-- enumerate(z), z a zip: one new record, over z itself -/
theorem ez_meets {z TI TO : Addr} {f0 : Value} :
    Meets (Builtin.«enumerate.__new__» ⟨[.type "enumerate", .ref z], []⟩) (fun _ R s => IsZip s.heap z TI TO f0 ∧ R (.ok (.ret (.ref s.heap.objs.size))) { s with heap := s.heap.push { cls := .type "enumerate", data := .fields #[.none, .bool false, .ref z, rawInt 0, .none, .none] } }) :=
  .of_wp fun prog w A R s h => by
    obtain ⟨hp, g, d, tk, os⟩ := s
    obtain ⟨zz, h⟩ := h
    have hsub := sub_enumerate
    have it : ∀ {A' : Around} {E : Value → Shared → Prop} {Q : Value → Shared → Prop}, Q (.ref z) ⟨hp, g, d, tk, os⟩ → wpAny (model prog w) A' (pyIter (.ref z)) Q E ⟨hp, g, d, tk, os⟩ := fun q => wpAny_pyIter_zip zz q
    wp_walk using it
    refine wpAny_stack_any fun st => wpAny_pure ?_
    split
    · rename_i c _ _ _ _ _
      cases (c == Value.type "enumerate") <;> (wp_walk using it; exact ⟨_, rfl, h⟩)
    · wp_walk using it
      exact ⟨_, rfl, h⟩
theorem ez_call {z TI TO : Addr} {f0 : Value} {Q : Value → Shared → Prop} (zz : IsZip s.heap z TI TO f0)
    (h : ∀ h', IsEnum h' s.heap.objs.size z 0 .none → h'.objs.size = s.heap.objs.size + 1 → (∀ b o, s.heap.get? b = some o → h'.get? b = some o) → Q (.ref s.heap.objs.size) { s with heap := h' }) :
    wpAny (model prog w) A (call (.type "enumerate") [.ref z]) Q E s := by
  refine callType_new F.called_enumerate (by decide) (F.typeCall_enumerate_1 _) (F.newCall_enumerate_1 _) (fun obj => F.args_object_init_2 obj _) F.entry_enumerate_new ez_meets ⟨zz, ?_⟩
  have he : IsEnum (s.heap.push { cls := .type "enumerate", data := .fields #[.none, .bool false, .ref z, rawInt 0, .none, .none] }) s.heap.objs.size z 0 .none := Heap.get?_push_size _ rfl
  exact ⟨⟨_, he, rfl⟩, h _ he (Heap.size_push ..) fun b o r => Heap.get?_push_of_some _ r⟩
end
end PySem
set_option Elab.async false
set_option linter.all false
set_option maxRecDepth 100000
set_option maxHeartbeats 4000000
namespace L2
open PySem PySem.Spec PyProof.Rows
section
variable {X : Cx} {pins : List (Addr × Obj)} {σ : St} {H : Hp} {s : Shared} {h' : Heap}
/-- records of ours have turned and two new objects are laid -/
theorem Inv.turned2 {t' : Nat} {ch : List Addr} {T U : Addr} {ob pb : HO} (I : Inv X pins σ H s) (k : ∀ b o, b ∉ ch → s.heap.get? b = some o → h'.get? b = some o) (hf : ∀ b ∈ ch, FpOk X pins H b) (hT : s.heap.objs.size ≤ T) (hU : s.heap.objs.size ≤ U)
    (n1 : ObjOk X.prog X.w (upd (upd H T ob) U pb) h' T ob) (n2 : ObjOk X.prog X.w (upd (upd H T ob) U pb) h' U pb) : Inv X pins σ (upd (upd H T ob) U pb) { s with heap := h', toks := t' } := by
  have hn : H T = none := I.hok.fresh hT
  have hm : H U = none := I.hok.fresh hU
  have ap : ∀ b u, H b = some u → b ∉ ch := fun b u q m => by
    rw [(hf b m).1] at q
    cases q
  have old : ∀ b u, H b = some u → (upd (upd H T ob) U pb) b = some u := fun b u q => by
    rw [upd_ne (ne_of_none q hm), upd_ne (ne_of_none q hn)]
    exact q
  refine I.step (g' := s.gens) (d' := s.drawn) (ch := ch) (fun b m => let r := hf b m; ⟨r.2.2.2.1, r.2.1, r.2.2.2.2.1, r.2.2.2.2.2⟩) (fun b o _ _ m q _ => k b o m q) (fun b o _ _ m q _ => ⟨o.slots, k b o m q⟩)
    (fun b o _ q m => ?_) (fun b o m q => ⟨o, k b o m q⟩) (fun b l q => old b _ q) (fun b o u q => old b _ q) (fun b ps q => ⟨#[], ?_⟩) (fun m q => ?_) (fun b u q => ?_) I.bare
  · have lt := Heap.lt_size q
    rw [upd_ne (Nat.ne_of_lt (Nat.lt_of_lt_of_le lt hU)), upd_ne (Nat.ne_of_lt (Nat.lt_of_lt_of_le lt hT))]
    exact m
  · rw [old b _ q]
    simp
  · obtain ⟨o, es, ep, ho, r⟩ := q
    exact ⟨o, es, ep, k _ o (fun m => (hf _ m).2.1 rfl) ho, r⟩
  · by_cases b2 : b = U
    · subst b2
      rw [upd_same] at q
      cases q
      exact n2
    · rw [upd_ne b2] at q
      by_cases b1 : b = T
      · subst b1
        rw [upd_same] at q
        cases q
        exact n1
      · rw [upd_ne b1] at q
        refine (I.hok b u q).stay (fun c v m r => k c v ?_ r) (fun c r => old c _ r) fun c l r => old c _ r
        rcases m with m | m
        · rw [m]
          exact ap b u q
        · exact ap c _ m
end
/-- enumerate(zip(a, b)): the lists as they stand at each turn -/
def Itez (K : PySem.W.Frag) (a b : Addr) : It :=
  ⟨fun i H => ∃ (xs ys : List V) (x y : V), SqL K H a xs ∧ SqL K H b ys ∧ xs[i]? = some x ∧ ys[i]? = some y,
    fun i H v H' => ∃ T U x y, v = .ref U ∧ H T = none ∧ H U = none ∧ T ≠ U ∧ H' = upd (upd H T (.tup [x, y])) U (.tup [.int (i : Nat), .ref T]) ∧ (∀ xs, SqL K H a xs → xs[i]? = some x) ∧ ∀ ys, SqL K H b ys → ys[i]? = some y,
    fun i H => ∃ xs ys : List V, SqL K H a xs ∧ SqL K H b ys ∧ (xs.length ≤ i ∨ ys.length ≤ i)⟩
theorem turn_ez {P : Program} {w : World} {K : PySem.W.Frag} {elts : List Expr} {kk : Nat} {tpos : Pos} {a b e z TI TO i1 i2 : Addr} (D : ZipApart z TI TO i1 i2 a b) (n : EzNe e z TI TO i1 i2) :
    Turn P w K (.Tuple elts kk tpos) (Itez K a b) [e, z, TI, TO, i1, i2] e (fun i h => (∃ old, IsEnum h e z ((i : Nat) : Int) old) ∧ ZS z TI TO i1 i2 a b i h) where
  mem := by simp
  obj := fun i h st c hc => by
    obtain ⟨⟨old, he⟩, f0, f, p, q, c0, c1, c2, c3, ⟨o1, d1, _, d2⟩, ⟨o2, d3, _, d4⟩⟩ := st
    simp only [List.mem_cons, List.not_mem_nil, or_false] at hc
    rcases hc with r | r | r | r | r | r
    · rw [r]; exact ⟨_, he, fun v m => nomatch m⟩
    · rw [r]; exact ⟨_, c1, fun v m => nomatch m⟩
    · rw [r]; exact ⟨_, c2, fun v m => nomatch m⟩
    · rw [r]; exact ⟨_, c3, fun v m => nomatch m⟩
    · rw [r]; exact ⟨o1, d1, fun v m => by rw [d2] at m; cases m⟩
    · rw [r]; exact ⟨o2, d3, fun v m => by rw [d4] at m; cases m⟩
  keep := fun i h h' st k => by
    obtain ⟨⟨old, he⟩, q⟩ := st
    refine ⟨⟨old, k e (by simp) _ he⟩, q.keep fun c m => k c ?_⟩
    simp only [List.mem_cons, List.not_mem_nil, or_false]
    exact .inr m
  item := by
    intro X hP hw hK hc i pins s σ H E I hf st hg
    subst hP hw hK
    obtain ⟨⟨old, he⟩, q⟩ := st
    obtain ⟨xs, ys, x, y, qx, qy, hx, hy⟩ := hg
    obtain ⟨its, rv, p, _⟩ := I.list qx
    obtain ⟨its2, rv2, p2, _⟩ := I.list qy
    obtain ⟨u, hu, ru⟩ := rv.get hx
    obtain ⟨u2, hu2, ru2⟩ := rv2.get hy
    have le : e < s.heap.objs.size := Heap.lt_size he
    refine ez_pyNext D n he q p.isList p2.isList (x := u) (y := u2) (by simpa using hu) (by simpa using hu2) fun h1 v1 v2 v3 v4 v5 v6 => ?_
    refine ⟨_, rfl, wpAny_letOwnedTupleGo_enum (s := { s with heap := h1, toks := s.toks + 1 }) v1 fun h2 m1 m2 => ?_⟩
    have t1 : h2.get? s.heap.objs.size = some { cls := .type "tuple", data := .seq #[u, u2] } := (m2.2 _ (Nat.ne_of_gt le)).trans v3
    have t2 : h2.get? (s.heap.objs.size + 1) = some { cls := .type "tuple", data := .seq #[.int i s.toks, .ref s.heap.objs.size] } := (m2.2 _ (Nat.ne_of_gt (Nat.lt_succ_of_lt le))).trans v4
    have I1 : Inv X pins σ (upd (upd H s.heap.objs.size (.tup [x, y])) (s.heap.objs.size + 1) (.tup [.int (i : Nat), .ref s.heap.objs.size])) { s with heap := h2, toks := s.toks + 1 } :=
      I.turned2 (ch := [e, z, TI, TO, i1, i2]) (fun c o m r => by
        simp only [List.mem_cons, List.not_mem_nil, or_false, not_or] at m
        exact (m2.2 c m.1).trans (v6 c o m.1 m.2.1 m.2.2.2.1 m.2.2.2.2.1 m.2.2.2.2.2 r)) hf (Nat.le_refl _) (Nat.le_succ _)
        ⟨by show 2 ≤ sizeLine; decide, [u, u2], .cons ru (.cons ru2 .nil), ⟨_, t1, rfl, _, rfl⟩⟩
        ⟨by show 2 ≤ sizeLine; decide, [.int i s.toks, .ref s.heap.objs.size], .cons ⟨_, rfl⟩ (.cons rfl .nil), ⟨_, t2, rfl, _, rfl⟩⟩
    refine ⟨.ref (s.heap.objs.size + 1), _, I1, rfl, ⟨_, _, x, y, rfl, I.hok.fresh (Nat.le_refl _), I.hok.fresh (Nat.le_succ _), Nat.ne_of_lt (Nat.lt_succ_self _), rfl, fun l m => by rw [I.list_inj m qx]; exact hx, fun l m => by rw [I.list_inj m qy]; exact hy⟩, ⟨⟨.ref s.heap.objs.size, ?_⟩, v2.keep fun c m o r => (m2.2 c (n.of m)).trans r⟩, fun c m => ?_⟩
    · have z1 : ((i + 1 : Nat) : Int) = (i : Int) + 1 := by omega
      rw [z1]
      exact m1
    · have lt : c < s.heap.objs.size := by
        obtain ⟨f0, f, a0, b0, c0, c1, c2, c3, ⟨o1, d1, _⟩, ⟨o2, d2, _⟩⟩ := q
        simp only [List.mem_cons, List.not_mem_nil, or_false] at m
        rcases m with r | r | r | r | r | r
        · rw [r]; exact le
        · rw [r]; exact Heap.lt_size c1
        · rw [r]; exact Heap.lt_size c2
        · rw [r]; exact Heap.lt_size c3
        · rw [r]; exact Heap.lt_size d1
        · rw [r]; exact Heap.lt_size d2
      rw [upd_ne (Nat.ne_of_lt (Nat.lt_succ_of_lt lt)), upd_ne (Nat.ne_of_lt lt)]
      exact (hf c m).1
  done := by
    intro X hP hw hK hc i pins s σ H E I hf st hg
    subst hP hw hK
    obtain ⟨⟨old, he⟩, q⟩ := st
    obtain ⟨xs, ys, qx, qy, hend⟩ := hg
    obtain ⟨its, rv, p, _⟩ := I.list qx
    obtain ⟨its2, rv2, p2, _⟩ := I.list qy
    have m1 := rv.length
    have m2 := rv2.length
    have no : its.toArray[i]? = none ∨ its2.toArray[i]? = none := by
      rcases hend with r | r
      · exact .inl (by simp; omega)
      · exact .inr (by simp; omega)
    refine ez_pyNext_end (I.ok.hd hc) D he q p.isList p2.isList no fun h' k => ⟨rfl, I.turnedL (t' := s.toks) (ch := [e, z, TI, TO, i1, i2]) (fun c o m r => ?_) hf⟩
    simp only [List.mem_cons, List.not_mem_nil, or_false, not_or] at m
    exact k c o m.2.1 m.2.2.2.1 m.2.2.2.2.1 m.2.2.2.2.2 r
  self := fun A i s Q E st h => let ⟨⟨_, he⟩, _⟩ := st; wpAny_pyIter_enum he h
def iEz (K : PySem.W.Frag) (ta : TA) : TI := fun σ H R => ta σ H fun vs H1 => ∃ a b xs ys, vs = [.ref a, .ref b] ∧ SqL K H1 a xs ∧ SqL K H1 b ys ∧ R (Itez K a b) H1
end L2
set_option Elab.async false
set_option linter.all false
set_option maxRecDepth 100000
set_option maxHeartbeats 4000000
namespace L2
open PySem PySem.Spec PyProof.Rows
theorem pi_ez {X : Cx} {a1 a2 : Expr} {ta : TA} {p p2 pos pos2 tpos : Pos} {elts : List Expr} {kk : Nat} (hg : Gl X "enumerate") (hm : X.mg "enumerate" = none) (hg2 : Gl X "zip") (hm2 : X.mg "zip" = none) (ha : PA X [a1, a2] ta)
    (hs2 : starEach [a1, a2] X.env = (false, eval a1 X.env) :: starEach [a2] X.env := by rfl) (hpl : (backTo pos2 (starEach [a2] X.env)).any (·.1) = false := by rfl)
    (hs : starEach [.Call (.Name "zip" p2) [a1, a2] [] pos2] X.env = [(false, eval (.Call (.Name "zip" p2) [a1, a2] [] pos2) X.env)] := by rfl) :
    PI X (.Tuple elts kk tpos) (.Call (.Name "enumerate" p) [.Call (.Name "zip" p2) [a1, a2] [] pos2] [] pos) (iEz X.K ta) := by
  refine ⟨fun pins s σ H R I h => Call_ (ld_blt I hg hm boot_enumerate (PyProof.Rows.callWith_type1 ?_ hs rfl))⟩
  rw [hs]
  show wpAny _ _ (spliced ((false, eval (.Call (.Name "zip" p2) [a1, a2] [] pos2) X.env) :: [])) _ _ s
  refine Calls.spliced_cons (Call_ (ld_blt I hg2 hm2 PyProof.Rows.boot_zip (PyProof.Rows.callWith_type1 (thn (ha.run pos2 pins s σ H _ I h) fun us s1 ⟨vs, H1, I1, r1, q1⟩ => ?_) hs2 hpl)))
  obtain ⟨a, b, xs, ys, ex, qx, qy, q⟩ := q1
  subst ex
  cases r1 with
  | cons r rr =>
    cases rr with
    | cons r' rr =>
      cases rr
      cases r
      cases r'
      obtain ⟨its, rv, m1, _⟩ := I1.list qx
      obtain ⟨its2, rv2, m2, _⟩ := I1.list qy
      have la : a < s1.heap.objs.size := m1.lt
      have lb : b < s1.heap.objs.size := m2.lt
      refine call_zip_2 m1.isList m2.isList fun h' c1 c2 c3 c4 c5 zs k => Calls.spliced_nil (ez_call (s := { s1 with heap := h' }) c1 fun h2 he z2 k2 => wpAny_pyIter_enum he ?_)
      have I2 : Inv X pins σ H1 { s1 with heap := h2 } := I1.kept (t' := s1.toks) fun c o r => k2 c o (k c o r)
      have le : ∀ c : Nat, s1.heap.objs.size ≤ c → FpOk X pins H1 c := fun c m => I1.fpOk m (I1.hok.fresh m)
      generalize hN : s1.heap.objs.size = N at *
      have zs' : (h'.objs.size : Nat) = N + 5 := zs
      have hz : ZS (N + 4) (N + 2) (N + 3) N (N + 1) a b 0 h2 := ⟨.none, false, .none, .none, .inl ⟨rfl, rfl⟩, k2 _ _ c1, k2 _ _ c2, k2 _ _ c3, c4.at fun o r => k2 _ o r, c5.at fun o r => k2 _ o r⟩
      have D : ZipApart (N + 4) (N + 2) (N + 3) N (N + 1) a b := PySem.W.ktu_apart N a b la lb
      have en : EzNe (h'.objs.size) (N + 4) (N + 2) (N + 3) N (N + 1) := by
        rw [zs]
        constructor <;> exact Nat.ne_of_gt (by omega)
      refine ⟨h'.objs.size, [h'.objs.size, N + 4, N + 2, N + 3, N, N + 1], _, _, H1, rfl, I2, turn_ez D en, ⟨⟨.none, he⟩, hz⟩, fun c m => ?_, q⟩
      simp only [List.mem_cons, List.not_mem_nil, or_false] at m
      rcases m with r | r | r | r | r | r <;> (rw [r]; refine le _ ?_)
      · rw [zs]; omega
      · exact Nat.le_add_right _ _
      · exact Nat.le_add_right _ _
      · exact Nat.le_add_right _ _
      · exact Nat.le_refl _
      · exact Nat.le_add_right _ _
end L2
namespace Ol
open PySem PySem.Spec PyProof.Rows L2
variable {Z : Zn} {σ : L2.St} {H : Hp} {Hb : Hp}
def zipE : Nat → List D → List D → List D
  | i, a :: r, b :: t => .tuple [.int (i : Nat), .tuple [a, b]] :: zipE (i + 1) r t
  | _, _, _ => []
theorem zipE_len : ∀ {i : Nat} {as bs : List D}, (zipE i as bs).length = min as.length bs.length
  | _, [], _ => by simp [zipE]
  | _, _ :: _, [] => by simp [zipE]
  | i, _ :: r, _ :: t => by simp [zipE, zipE_len (as := r) (bs := t)]
theorem zipE_get : ∀ {as bs : List D} {n i : Nat} {a b : D}, as[i]? = some a → bs[i]? = some b → (zipE n as bs)[i]? = some (.tuple [.int ((n + i : Nat) : Int), .tuple [a, b]])
  | [], _, _, _, _, _, h, _ => by simp at h
  | _ :: _, [], _, _, _, _, _, h => by simp at h
  | x :: r, y :: t, n, 0, a, b, h, h2 => by simp at h h2; subst h; subst h2; rfl
  | x :: r, y :: t, n, i + 1, a, b, h, h2 => by
    have z := zipE_get (as := r) (bs := t) (n := n + 1) (i := i) (a := a) (b := b) (by simpa using h) (by simpa using h2)
    rw [show n + 1 + i = n + (i + 1) by omega] at z
    simpa [zipE] using z
@[simp] def mEnumZip (a : MA) : MI := fun env => (a env).bind fun xs => match xs.1 with
  | [.d (.list as), .d (.list bs)] => if as.any isS then none else some (zipE 0 as bs, xs.2)
  | [.d (.list as), .new (.lst bs)] => if as.any isS then none else some (zipE 0 as bs, xs.2)
  | _ => none
theorem walk_ez {K : Fg} {a b : Addr} {xs ys : List V} {n : Nat} (hn : n = min xs.length ys.length) : Walk (Itez K a b) n (fun H => SqL K H a xs ∧ SqL K H b ys) fun i H v H' =>
    ∃ T U x y, v = .ref U ∧ H T = none ∧ H U = none ∧ T ≠ U ∧ H' = upd (upd H T (.tup [x, y])) U (.tup [.int (i : Nat), .ref T]) ∧ xs[i]? = some x ∧ ys[i]? = some y := by
  subst hn
  refine ⟨fun i _ hi q => ?_, fun _ q => ⟨xs, ys, q.1, q.2, by omega⟩, fun i H v H' _ q y => ?_⟩
  · have p1 : i < xs.length := by omega
    have p2 : i < ys.length := by omega
    exact ⟨xs, ys, xs[i], ys[i], q.1, q.2, List.getElem?_eq_getElem p1, List.getElem?_eq_getElem p2⟩
  · obtain ⟨T, U, x, z, u1, u2, u3, u4, u5, u6, u7⟩ := y
    exact ⟨T, U, x, z, u1, u2, u3, u4, u5, u6 xs q.1, u7 ys q.2⟩
theorem itr_ez {xs ys : List V} {as bs : List D} {a b : Addr} (qx : SqL Z.K Hb a xs) (qy : SqL Z.K Hb b ys) (t1 : DpAll Z.K Hb xs as) (t2 : DpAll Z.K Hb ys bs) (no : as.any isS = false) : ItR Z (Itez Z.K a b) (zipE 0 as bs) Hb := by
  refine ⟨_, _, walk_ez (xs := xs) (ys := ys) (by rw [zipE_len, DpAll.length t1, DpAll.length t2]), fun H e => ⟨sql_ex e qx, sql_ex e qy⟩, fun i Hb1 H x H' hi e1 e2 y => ?_⟩
  obtain ⟨T, U, u, v, rfl, hT, hU, ne, rfl, hu, hv⟩ := y
  rw [zipE_len] at hi
  have l1 : i < as.length := by omega
  have l2 : i < bs.length := by omega
  have d1 := List.getElem?_eq_getElem l1
  have d2 := List.getElem?_eq_getElem l2
  obtain ⟨u', m1, p1⟩ := DpAll.get t1 d1
  obtain ⟨v', m2, p2⟩ := DpAll.get t2 d2
  rw [hu] at m1
  rw [hv] at m2
  cases m1
  cases m2
  have z := zipE_get (n := 0) d1 d2
  rw [Nat.zero_add] at z
  have n1 : Nx Hb1 H (upd Hb1 T (.tup [u, v])) (upd H T (.tup [u, v])) := Nx.new e2 hT
  have hU1 : (upd H T (.tup [u, v])) U = none := by rw [upd_ne (Ne.symm ne)]; exact hU
  have n2 : Nx (upd Hb1 T (.tup [u, v])) (upd H T (.tup [u, v])) (upd (upd Hb1 T (.tup [u, v])) U (.tup [.int (i : Nat), .ref T])) (upd (upd H T (.tup [u, v])) U (.tup [.int (i : Nat), .ref T])) := Nx.new n1.sub hU1
  have k1 : Ex Hb (upd Hb1 T (.tup [u, v])) := e1.trans (Ex.new (e2.free hT))
  have k2 : Ex (upd Hb1 T (.tup [u, v])) (upd (upd Hb1 T (.tup [u, v])) U (.tup [.int (i : Nat), .ref T])) := Ex.new (n1.sub.free hU1)
  have nos : isS as[i] = false := by
    have := List.any_eq_false.mp no as[i] (List.getElem_mem l1)
    simpa using this
  exact ⟨_, _, n1.trans n2, z, .tup (.inl (.of upd_same)) (.cons (.int _) (.cons (Dp.ex k2 (.tup (.inl (.of upd_same)) (.cons (Dp.ex k1 p1) (.cons (Dp.ex k1 p2) .nil)) fun q => by simp [nos] at q)) .nil)) fun z => by simp [isS] at z⟩
theorem ri_ez {a : MA} {R : It → Hp → Prop} (h : tII Z (mEnumZip a) σ H R) : iEz Z.K (tIA Z a) σ H R := by
  obtain ⟨B, Hb, env, ds, env', st, e, q⟩ := h
  simp only [mEnumZip, Option.bind_eq_some_iff] at e
  obtain ⟨⟨xs, e1⟩, ha, e⟩ := e
  refine ⟨B, Hb, env, xs, e1, st, ha, fun vs ps Hb1 H1 g1 rv => ?_⟩
  have go : ∀ as bs, xs = [.d (.list as), .d (.list bs)] ∨ xs = [.d (.list as), .new (.lst bs)] → as.any isS = false → ds = zipE 0 as bs → env' = e1 →
      ∃ a b ys zs, vs = [.ref a, .ref b] ∧ SqL Z.K H1 a ys ∧ SqL Z.K H1 b zs ∧ R (Itez Z.K a b) H1 := fun as bs hx no hd he => by
    subst hd he
    obtain ⟨Hb2, g2, hd⟩ := g1.kn (ds := [.list as, .list bs]) st rv (by rcases hx with rfl | rfl <;> rfl)
    obtain ⟨v, w, rfl, d1, d2⟩ := dp2 hd
    cases d1 with
    | lst s t => cases d2 with
      | lst s2 t2 => exact ⟨_, _, _, _, rfl, sql_ex g2.st.sub s, sql_ex g2.st.sub s2, q _ Hb2 H1 g2 (itr_ez s s2 t t2 no)⟩
  split at e
  · rename_i x1 as bs hx
    split at e
    · cases e
    · rename_i no
      cases e
      exact go as bs (.inl hx) (by simpa using no) rfl rfl
  · rename_i x1 as bs hx
    split at e
    · cases e
    · rename_i no
      cases e
      exact go as bs (.inr hx) (by simpa using no) rfl rfl
  · cases e
section
variable {X : Cx} {p p2 pos pos2 tpos : Pos} {mas : MA}
theorem iI_ez {a1 a2 : Expr} {elts : List Expr} {kk : Nat} (hg : Gl X "enumerate") (hm : X.mg "enumerate" = none) (hg2 : Gl X "zip") (hm2 : X.mg "zip" = none) (ha : PA X [a1, a2] (tIA (zn X) mas))
    (hs2 : starEach [a1, a2] X.env = (false, eval a1 X.env) :: starEach [a2] X.env := by rfl) (hpl : (backTo pos2 (starEach [a2] X.env)).any (·.1) = false := by rfl)
    (hs : starEach [.Call (.Name "zip" p2) [a1, a2] [] pos2] X.env = [(false, eval (.Call (.Name "zip" p2) [a1, a2] [] pos2) X.env)] := by rfl) :
    PI X (.Tuple elts kk tpos) (.Call (.Name "enumerate" p) [.Call (.Name "zip" p2) [a1, a2] [] pos2] [] pos) (tII (zn X) (mEnumZip mas)) :=
  ⟨fun pins s σ H R I q => (pi_ez hg hm hg2 hm2 ha hs2 hpl hs).run pins s σ H R I (ri_ez q)⟩
end
end Ol
set_option Elab.async false
set_option linter.all false
set_option maxRecDepth 100000
set_option maxHeartbeats 4000000
namespace Ol
open PySem PySem.Spec PyProof.Rows L2
variable {Z : Zn} {σ : L2.St} {H : Hp} {Hb : Hp} {v : V}
/-- a name, and a target behind it -/
def mPairG (i : Nat) (g : MG) : MG := fun pv env => match pv with
  | .d (.tuple [a, b]) => (store i (.d a) env).bind (g (.d b))
  | _ => none
theorem rg_pair {i : Nat} {is : List Nat} {g : MG} {Q : L2.St → Hp → Prop} (h : tG Z (i :: is) (mPairG i g) v σ H Q) : gTup Z.K 2 (gCons (gName i) (gCons (tG Z is g) gNil)) v σ H Q := by
  obtain ⟨B, Hb, H0, env, pv, env', st, h0, hb, rv, e, q⟩ := h
  unfold mPairG at e
  split at e
  · rename_i a b
    simp only [Option.bind_eq_some_iff] at e
    obtain ⟨e1, h1, h2⟩ := e
    cases rv with
    | d w =>
      cases w with
      | tup s t _ =>
        obtain ⟨x, y, rfl, d1, d2⟩ := dp2 t
        obtain ⟨st1, ow1⟩ := st.store (v := x) (fun y hy => by cases hy; exact d1) (fun o ho => by cases ho) h1
        have ow2 : ∀ p, Ow e1 (σ.set i (some x)) p → Ow env σ p := fun p hp => by
          rcases ow1 p hp with z | ⟨_, o, z⟩
          · exact z
          · cases z
        refine ⟨_, _, rfl, sqt_ex st.sub s, rfl, x, [y], rfl, y, [], rfl, ⟨B, Hb, H0, e1, .d b, env', st1, fun p hp => h0 p (ow2 p hp), hb, .d d2, h2, fun σ' s' w' y' => ⟨rfl, q σ' s' (fun us hu => ?_) fun p hp => (y' p hp).imp (ow2 p) id⟩⟩⟩
        rw [w' us fun j hj => hu j (List.mem_cons_of_mem _ hj)]
        exact wipe_set (hu i List.mem_cons_self)
  · cases e
section
variable {X : Cx} {pos p : Pos} {i : Nat} {is : List Nat} {g : MG} {x : Str} {tg : Expr}
theorem iG_pair {k : Nat} (hc : X.calm = true) (hN : X.N.Nodup) (hi : X.N[i]? = some x) (hx : Loc X.env.scope x) (h : PG X tg (tG (zn X) is g)) (hf : X.fn x = true ∨ X.env.scope.names.lookup x = some .local := by first | exact .inl rfl | exact .inr rfl)
    (hs : (assignEach [.Name x pos, tg] X.env).map (·.2) = assign (.Name x pos) X.env :: (assignEach [tg] X.env).map (·.2) := by rfl) (hs2 : (assignEach [tg] X.env).map (·.2) = assign tg X.env :: (assignEach [] X.env).map (·.2) := by rfl)
    (hn : (assignEach [.Name x pos, tg] X.env).length = 2 := by rfl) (hst : (assignEach [.Name x pos, tg] X.env).findIdx? (·.1) = none := by rfl) : PG X (.Tuple [.Name x pos, tg] k p) (tG (zn X) (i :: is) (mPairG i g)) :=
  ⟨fun pins s σ H v u Q I r q => (pg_tup hc (pgs_cons (pg_name hN hi hx hf) (pgs_cons h pgs_nil hs2) hs) hn hst).run pins s σ H v u Q I r (rg_pair q)⟩
end
end Ol
set_option Elab.async false
set_option linter.all false
set_option maxRecDepth 100000
set_option maxHeartbeats 4000000
namespace Ol
open PySem PySem.Spec PyProof.Rows L2
variable {Z : Zn} {σ : L2.St} {H : Hp} {Hb : Hp} {v : V}
/-! d[k] -/
def getK (kvs : List (Key × D)) (k : Key) : Option D := (kvs.find? fun kv => decide (kv.1 = k)).map (·.2)
def oDg : RV → RV → Option PV
  | .m kvs, .d x => (keyOf x).bind fun k => (getK kvs k).bind fun d => some (.d d)
  | _, _ => none
theorem getK_v {K : Fg} : ∀ {kvs : List (Key × D)} {us : List (Key × V)} {k : Key} {d : D}, us.map (·.1) = kvs.map (·.1) → DpAll K H (us.map (·.2)) (kvs.map (·.2)) → getK kvs k = some d → ∃ v, valV us k = some v ∧ Dp K H v d
  | [], _, _, _, _, _, h => by simp [getK] at h
  | _ :: _, [], _, _, h, _, _ => by simp at h
  | (k1, d1) :: kvs, (k2, v2) :: us, k, d, h, t, e => by
    simp only [List.map_cons, List.cons.injEq] at h
    obtain ⟨h1, h2⟩ := h
    subst h1
    cases t with
    | cons a t =>
      unfold getK at e
      unfold valV
      rw [List.find?_cons] at e ⊢
      by_cases c : k2 = k
      · simp only [c, decide_true, Option.map_some, Option.some.injEq] at e ⊢
        subst e
        exact ⟨v2, rfl, a⟩
      · simp only [c, decide_false] at e ⊢
        exact getK_v h2 t e
def rDg : R2 := fun x y H Q => ∃ a v, x = .ref a ∧ DGet H a y (some v) ∧ Q v H
theorem s_dg : Op2 Z rDg oDg := by
  intro Hb H x y dx dy pv e rx ry h Q q
  unfold oDg at h
  split at h
  · cases rx with
    | m w =>
      simp only [Option.bind_eq_some_iff] at h
      obtain ⟨k, h1, d, h2, h3⟩ := h
      cases h3
      cases w with
      | dic w1 w2 w3 =>
        rename_i us
        obtain ⟨v, p1, p2⟩ := getK_v w2 w3 h2
        refine ⟨_, v, rfl, ?_, q _ _ _ (.refl e) (.d p2)⟩
        rw [keyOf_v (ry.dp e) h1, ← p1]
        exact .k w1
  · cases h
section
variable {X : Cx} {pos : Pos} {a b : Expr} {ma mb : ME}
theorem iE_dg (hu : X.A.units + 64 < cLine) (ha : PE X a (tI (zn X) ma)) (hb : PE X b (tI (zn X) mb)) (hs : NoSl b := by intro _ _; rfl) : PE X (.Subscript a b pos) (tI (zn X) (m2 oDg ma mb)) :=
  pe_mono (pe_dget (by omega) ha hb hs) fun σ H Q q => re_m2 s_dg q
end
end Ol
set_option Elab.async false
set_option linter.all false
set_option maxRecDepth 100000
set_option maxHeartbeats 4000000
namespace Ol
open PySem PySem.Spec PyProof.Rows L2
variable {Z : Zn} {σ : L2.St} {H : Hp} {Hb : Hp} {v : V} {B : Bs} {env e' : Env}
/-! a[i], b[j] = x, y -/
def mPut (i : Nat) (f : Ob → D → D → Option Ob) (ix : ME) (y : D) (e : Env) : Option Env := match sget e i with
  | some (.own _ _) => (ix e).bind fun k => (fz k.1).bind fun kd => match sget k.2 i with
    | some (.own b o) => (f o kd y).bind fun o' => some (sset k.2 i (some (.own b o')))
    | _ => none
  | _ => none
def mSwapIx (i : Nat) (k1 : ME) (j : Nat) (k2 : ME) (a : ME) : MS := fun env => (a env).bind fun x => match x.1 with
  | .d (.tuple [d1, d2]) => (mPut i fSetL k1 d1 x.2).bind fun e1 => (mPut j fSetL k2 d2 e1).bind fun e2 => some (.nx e2)
  | _ => none
theorem put_ok {f : Ob → D → D → Option Ob} {ix : ME} {r : V → V → V → Hp → (Hp → Prop) → Prop} {i : Nat} {y : D} {Q : L2.St → Hp → Prop} (hr : OpS Z r f) (st : Sta Z B Hb H σ env) (hd : Dp Z.K Hb v y) (e : mPut i f ix y env = some e')
    (q : ∀ Hb' H', Sta Z B Hb' H' σ e' → Ex Hb Hb' → Q σ H') : gSub (tVar i) (tI Z ix) r v σ H Q := by
  unfold mPut at e
  cases h2 : sget env i with
  | none => simp [h2] at e
  | some sv =>
    simp only [h2] at e
    cases sv with
    | d x => cases e
    | own b0 o0 =>
      simp only [Option.bind_eq_some_iff] at e
      obtain ⟨⟨k, e2⟩, hb, dk, h3, e⟩ := e
      obtain ⟨p, q1, _⟩ := st.sl i _ h2
      refine ⟨_, q1, B, Hb, env, k, e2, st, hb, fun kv Hb3 H3 g3 rk => ?_⟩
      obtain ⟨Hb4, g4, hk⟩ := fz_known st g3 rk h3
      cases h4 : sget e2 i with
      | none => simp [h4] at e
      | some sv =>
        simp only [h4] at e
        cases sv with
        | d x => cases e
        | own b o =>
          simp only [Option.bind_eq_some_iff] at e
          obtain ⟨o', hf, e⟩ := e
          cases e
          obtain ⟨p', w1, w2, w3, w4⟩ := g4.st.sl i _ h4
          rw [q1] at w1
          cases w1
          exact hr Hb4 H3 p o kv v dk y o' g4.st.sub w3 w2 hk (Dp.ex g4.ny.kb hd) hf _ fun u hw => q Hb4 _ (g4.put st h4 q1 hw).st g4.ny.kb
theorem rs_swap {i j : Nat} {k1 k2 a : ME} {r : V → V → V → Hp → (Hp → Prop) → Prop} {D : Ends} (hr : OpS Z r fSetL) (h : tS Z (mSwapIx i k1 j k2 a) D σ H) :
    tAsg (tI Z a) (gTup Z.K 2 (gCons (gSub (tVar i) (tI Z k1) r) (gCons (gSub (tVar j) (tI Z k2) r) gNil))) D σ H := by
  obtain ⟨B, Hb, env, rr, st, e, q⟩ := h
  simp only [mSwapIx, Option.bind_eq_some_iff] at e
  obtain ⟨⟨x, e1⟩, ha, e⟩ := e
  refine ⟨B, Hb, env, x, e1, st, ha, fun v Hb1 H1 g1 rv => ?_⟩
  split at e
  · rename_i x1 d1 d2 hx
    have hx' : x = _ := hx
    subst hx'
    simp only [Option.bind_eq_some_iff] at e
    obtain ⟨e2, p1, e3, p2, e⟩ := e
    cases e
    cases rv with
    | d w =>
      cases w with
      | tup s t _ =>
        obtain ⟨y1, y2, rfl, t1, t2⟩ := dp2 t
        refine ⟨_, _, rfl, sqt_ex g1.st.sub s, rfl, y1, [y2], rfl, put_ok hr g1.st t1 p1 fun Hb2 H2 s2 x2 => ⟨y2, [], rfl, put_ok hr s2 (Dp.ex x2 t2) p2 fun Hb3 H3 s3 x3 => ⟨rfl, q σ Hb3 H3 s3 ((g1.ny.kb.trans x2).trans x3)⟩⟩⟩
  · cases e
section
variable {X : Cx} {pos p p1 p2 : Pos} {i j : Nat} {o o2 b b2 a : Expr} {mb mb2 ma : ME}
theorem iS_swap {k : Nat} (hc : X.calm = true) (ho : PE X o (tVar i)) (hi : PE X b (tI (zn X) mb)) (ho2 : PE X o2 (tVar j)) (hi2 : PE X b2 (tI (zn X) mb2)) (he : PE X a (tI (zn X) ma))
    (ha : ∀ v, assign (.Subscript o b p1) X.env v = (do
      let ov ← holding [v] (eval o X.env)
      let iv ← holding [v, ov] (eval b X.env)
      standAt p1
      holding [v, ov, iv] (setItem ov iv v)
      release [v, ov, iv] []) := by intro _; rfl)
    (ha2 : ∀ v, assign (.Subscript o2 b2 p2) X.env v = (do
      let ov ← holding [v] (eval o2 X.env)
      let iv ← holding [v, ov] (eval b2 X.env)
      standAt p2
      holding [v, ov, iv] (setItem ov iv v)
      release [v, ov, iv] []) := by intro _; rfl)
    (hs1 : (assignEach [.Subscript o b p1, .Subscript o2 b2 p2] X.env).map (·.2) = assign (.Subscript o b p1) X.env :: (assignEach [.Subscript o2 b2 p2] X.env).map (·.2) := by rfl) (hs2 : (assignEach [.Subscript o2 b2 p2] X.env).map (·.2) = assign (.Subscript o2 b2 p2) X.env :: (assignEach [] X.env).map (·.2) := by rfl)
    (hn : (assignEach [.Subscript o b p1, .Subscript o2 b2 p2] X.env).length = 2 := by rfl) (hst : (assignEach [.Subscript o b p1, .Subscript o2 b2 p2] X.env).findIdx? (·.1) = none := by rfl)
    (hs : swapsWithSole [.Tuple [.Subscript o b p1, .Subscript o2 b2 p2] k p] a pos.line X.env = pure false := by rfl) (hw : swappedStores [.Tuple [.Subscript o b p1, .Subscript o2 b2 p2] k p] a X.env = pure none := by rfl)
    (h1 : (assignEach [.Tuple [.Subscript o b p1, .Subscript o2 b2 p2] k p] X.env).map (·.2) = [assign (.Tuple [.Subscript o b p1, .Subscript o2 b2 p2] k p) X.env] := by rfl) :
    PS X (.Assign [.Tuple [.Subscript o b p1, .Subscript o2 b2 p2] k p] a pos) (tS (zn X) (mSwapIx i mb j mb2 ma)) :=
  ps_mono (ps_asg he (pg_tup hc (pgs_cons (pg_sub ho hi set_list ha) (pgs_cons (pg_sub ho2 hi2 set_list ha2) pgs_nil hs2) hs1) hn hst) hs hw h1) fun D σ H => rs_swap t_setL
end
end Ol
set_option Elab.async false
set_option linter.all false
set_option maxRecDepth 100000
set_option maxHeartbeats 4000000
namespace Ol
open PySem PySem.Spec PyProof.Rows L2
section
variable {X : Cx} {e tg : Expr} {Z : Zn} {l : MA}
theorem gIez (h : PI X tg e (tII Z (mEnumZip l))) : PI X tg e (tII Z (mEnumZip l)) := h
variable {st : Stmt} {i j : Nat} {x y z : ME}
theorem gSw (h : PS X st (tS Z (mSwapIx i x j y z))) : PS X st (tS Z (mSwapIx i x j y z)) := h
end
section
variable {X : Cx} {a b c : Expr} {x y z : Str} {px py pz pt pt2 pos : Pos} {i j l : Nat} {mas : MA}
theorem iS_par3 {kt k2} (hc : X.calm = true) (hN : X.N.Nodup) (hi : X.N[i]? = some x) (hj : X.N[j]? = some y) (hl : X.N[l]? = some z) (hij : i ≠ j) (hil : i ≠ l) (hjl : j ≠ l) (hx : X.env.scope.names.lookup x = some .local) (hy : X.env.scope.names.lookup y = some .local) (hz : X.env.scope.names.lookup z = some .local) (ha : PA X [a, b, c] (tIA (zn X) mas))
    (hw : swappedStores [.Tuple [.Name x px, .Name y py, .Name z pz] kt pt] (.Tuple [a, b, c] k2 pt2) X.env = pure (some [x, y, z])) (hs : swapsWithSole [.Tuple [.Name x px, .Name y py, .Name z pz] kt pt] (.Tuple [a, b, c] k2 pt2) pos.line X.env = pure false := by rfl) :
    PS X (.Assign [.Tuple [.Name x px, .Name y py, .Name z pz] kt pt] (.Tuple [a, b, c] k2 pt2) pos) (tS (zn X) (mPar [i, j, l] mas)) := ps_mono (ps_par3 hc hN hi hj hl hij hil hjl hx hy hz ha hw hs) fun D σ H => rs_par3
end
end Ol
set_option Elab.async false
set_option linter.all false
set_option maxRecDepth 100000
set_option maxHeartbeats 4000000
namespace Ol
open PySem PySem.Spec PyProof.Rows L2
/-! xs.index(x), a list of texts -/
def mIdxL (a b : ME) : ME := fun env => (a env).bind fun x => match x.1 with
  | .d (.list ds) => (strsOf ds).bind fun ys => (b x.2).bind fun y => match y.1 with
    | .d (.str z) => (idxOf ys z).bind fun j => some (.d (.int (j : Nat)), y.2)
    | _ => none
  | _ => none
theorem all_flat : ∀ ys : List Str, (ys.map V.str).all flatV = true
  | [] => rfl
  | y :: r => by simp [flatV, all_flat r]
theorem eqV_str (a b : Str) : eqV (.str a) (.str b) = decide (a = b) := by
  by_cases h : a = b <;> simp [eqV, h]
theorem re_idxL {Z : Zn} {σ : L2.St} {H : Hp} {a b : ME} {Q : VK} (h : tI Z (mIdxL a b) σ H Q) : tBM Z.K "list" (rIndex Z.K) (tI Z a) (tIA Z (mCons b mNil)) σ H Q := by
  obtain ⟨B, Hb, env, pv, env', st, e, q⟩ := h
  simp only [mIdxL, Option.bind_eq_some_iff] at e
  obtain ⟨⟨x, e1⟩, ha, e⟩ := e
  split at e
  · rename_i ds hx
    have hx' : x = _ := hx
    subst hx'
    simp only [Option.bind_eq_some_iff] at e
    obtain ⟨ys, h1, ⟨y, e2⟩, hb, e⟩ := e
    split at e
    · rename_i z hy
      have hy' : y = _ := hy
      subst hy'
      simp only [Option.bind_eq_some_iff] at e
      obtain ⟨j, h2, h3⟩ := e
      cases h3
      have hd := strsOf_eq h1
      subst hd
      refine ⟨B, Hb, env, _, _, st, ha, fun v Hb1 H1 g1 rv => ?_⟩
      cases rv with
      | d w => cases w with
        | lst s t =>
          have hv := DpAll.strs_inv t
          subst hv
          refine ⟨.inl ⟨rfl, _, sql_ex g1.st.sub s⟩, B, Hb1, e1, [.d (.str z)], _, g1.st, by simp [mCons, mNil, hb]; rfl, fun vs ps Hb2 H2 g2 rvs => ?_⟩
          cases rvs with
          | d w2 t2 =>
            cases t2
            cases w2
            obtain ⟨hj, hz, hno⟩ := List.findIdx?_eq_some_iff_getElem.mp h2
            refine ⟨_, ys.map V.str, .str z, j, .str z, rfl, rfl, sql_ex (g2.ny.kb.trans g2.st.sub) s, rfl, all_flat ys, ?_, by rw [eqV_str]; simp, fun m z' hm hq => ?_, q _ Hb2 H2 (g1.trans g2) (.d (.int _))⟩
            · rw [List.getElem?_map, List.getElem?_eq_getElem hj, of_decide_eq_true hz]; rfl
            · have hm' := hno m hm
              have hlt : m < ys.length := Nat.lt_trans hm hj
              rw [List.getElem?_map, List.getElem?_eq_getElem hlt] at hq
              cases hq
              rw [eqV_str]
              simpa using hm'
    · cases e
  · cases e
section
variable {X : Cx} {a b : Expr} {ma mb : ME}
theorem iE_idxL {apos cpos : Pos} (ha : PE X a (tI (zn X) ma)) (hb : PE X b (tI (zn X) mb))
    (hbase : attributeBase a "index" X.env (eval a X.env) = eval a X.env := by rfl)
    (hfew : ((backTo cpos (starEach [b] X.env)).all (fun x => !x.1) && (backToKw cpos (keywordEach [] X.env)).all (fun x => x.1.isSome)
      && decide (([b] : List Expr).length + ([] : List Keyword).length + (if ([] : List Keyword).isEmpty then 0 else 1) < 30)) = true := by rfl)
    (hline : (apos.endLine == cpos.line) = true := by rfl) (hs : starEach [b] X.env = (false, eval b X.env) :: starEach [] X.env := by rfl) (hp : (backTo cpos (starEach [] X.env)).any (·.1) = false := by rfl) :
    PE X (.Call (.Attribute a "index" apos) [b] [] cpos) (tI (zn X) (mIdxL ma mb)) := pe_mono (pe_bm PySem.F.plainAttrs_list PySem.F.slot_list_index PySem.F.type_list_index mt_index ha (iA_cons hb iA_nil hs) hbase hfew hline hs hp) fun σ H Q => re_idxL
end
section
variable {X : Cx} {e : Expr} {Z : Zn} {x y : ME}
theorem gIdxL (h : PE X e (tI Z (mIdxL x y))) : PE X e (tI Z (mIdxL x y)) := h
end
end Ol
set_option Elab.async false
set_option linter.all false
set_option maxRecDepth 100000
set_option maxHeartbeats 4000000
namespace Ol
open PySem PySem.Spec PyProof.Rows L2 HT
/-! x[::-1] of a tuple -/
section
variable {pp : Program} {ww : World} {aa : Around} {ee : Value → Shared → Prop} {s : Shared}
theorem adj_rev (n : Nat) : Builtin.Slice.sliceAdjust none none (-1) (n : Int) = ((n : Int) - 1, -1) := by
  simp [Builtin.Slice.sliceAdjust]
theorem plc_rev (n : Nat) : Builtin.Slice.slicePlaces ((n : Int) - 1) (-1) (-1) = n := by
  unfold Builtin.Slice.slicePlaces
  have h1 : ¬ ((-1 : Int) > 0) := by omega
  simp only [h1, if_false, show (-(-1 : Int)) = 1 from rfl, Int.ediv_one]
  split <;> omega
theorem app_rev {z : Addr} {n : Nat} {v : Value} {K : Int × Int × Nat → Shared → Prop} (hz : s.heap.IsSliceOf z .none .none v) (pv : IsPart v (some (-1))) (h : K ((n : Int) - 1, -1, n) s) : wpAny (model pp ww) aa (Builtin.Slice.sliceApplied (.ref z) (pure (n : Int))) K ee s := by
  obtain ⟨ob, q1, q2, q3⟩ := id hz
  unfold Builtin.Slice.sliceApplied Builtin.Slice.sliceFields
  refine wpAny_bind (wpAny_bind (wpAny_field q1 q3 (x := .none) rfl ?_))
  refine wpAny_bind (wpAny_field q1 q3 (x := .none) rfl ?_)
  refine wpAny_bind (wpAny_field q1 q3 (x := v) rfl (wpAny_pure ?_))
  refine wpAny_bind (slicePart_ pv ?_)
  show wpAny _ _ (if ((-1 : Int) == 0) = true then _ else _) _ _ s
  rw [if_neg (by decide)]
  refine wpAny_bind (slicePart_none (wpAny_bind (slicePart_none (wpAny_bind (wpAny_pure ?_)))))
  show wpAny _ _ (match Builtin.Slice.sliceAdjust none none (-1) (n : Int) with | (lo, hi) => pure (lo, (-1 : Int), Builtin.Slice.slicePlaces lo hi (-1))) _ _ s
  rw [adj_rev n]
  show wpAny _ _ (pure ((n : Int) - 1, (-1 : Int), Builtin.Slice.slicePlaces ((n : Int) - 1) (-1) (-1))) _ _ s
  rw [plc_rev]
  exact wpAny_pure h
theorem fm_map {α β : Type} {f : α → Option β} {g : α → β} : ∀ {l : List α}, (∀ x ∈ l, f x = some (g x)) → l.filterMap f = l.map g
  | [], _ => rfl
  | a :: r, h => by
    rw [List.filterMap_cons, h a List.mem_cons_self, List.map_cons, fm_map fun x hx => h x (List.mem_cons_of_mem _ hx)]
theorem pick_rev (xs : Array Value) : ((List.range xs.size).filterMap fun (m : Nat) => xs[((xs.size : Int) - 1 + (m : Int) * (-1)).toNat]?).toArray = xs.toList.reverse.toArray := by
  congr 1
  have e : (List.range xs.size).filterMap (fun (m : Nat) => xs[((xs.size : Int) - 1 + (m : Int) * (-1)).toNat]?) = (List.range xs.size).map fun m => xs.toList.reverse.getD m .none := by
    refine fm_map fun m hm => ?_
    rw [List.mem_range] at hm
    have : ((xs.size : Int) - 1 + (m : Int) * (-1)).toNat = xs.size - 1 - m := by omega
    rw [this, List.getD_eq_getElem?_getD, List.getElem?_reverse (by simpa using hm)]
    simp [Array.getElem?_eq_getElem, show xs.size - 1 - m < xs.size by omega]
  rw [e]
  apply List.ext_getElem?
  intro i
  rw [List.getElem?_map]
  by_cases h : i < xs.size
  · rw [List.getElem?_range h]
    simp only [Option.map_some, List.getD_eq_getElem?_getD]
    rw [List.getElem?_eq_getElem (by simpa using h)]
    rfl
  · rw [List.getElem?_eq_none (by simpa using h), List.getElem?_eq_none (by simpa using h)]
    rfl
theorem get_rev {t z : Addr} {xs : Array Value} {v : Value} {K : Value → Shared → Prop} (ht : IsTup s.heap t xs) (hz : s.heap.IsSliceOf z .none .none v) (pv : IsPart v (some (-1)))
    (h : K (.ref s.heap.objs.size) { s with heap := s.heap.push { cls := .type "tuple", data := .seq xs.toList.reverse.toArray } }) (hn : xs.size ≤ sizeLine) : wpAny (model pp ww) aa (getItem (.ref t) (.ref z)) K ee s := by
  have fits : sizeOk (.seq xs.toList.reverse.toArray) := by
    show xs.toList.reverse.toArray.size ≤ sizeLine
    rw [List.size_toArray, List.length_reverse, Array.length_toList]
    exact hn
  obtain ⟨ob, q1, q2, q3⟩ := id hz
  have tz : s.TypeIs (.ref z) "slice" := ⟨ob, q1, q2⟩
  unfold getItem
  try with_reducible refine wpAny_holding ?_
  first | refine wpAny_bind (wpAny_pure ?_) | skip
  refine wpAny_bind (wpAny_sequenceKey ht.typeIs (by decide) ?_)
  refine wpAny_bind (wpAny_callSpecial?_slot (name := Str.ofString "__getitem__") ht.typeIs PyProof.Rows.slot_tuple_getitem (wpAny_call_entry PyProof.Rows.slot_tuple_getitem ht.typeIs entry_tuple_getitem ?_ (args_tuple_getitem _ _)))
  show wpAny _ _ (Builtin.Tuple.tupleItemsOf (.ref t) >>= _) _ _ s
  refine wpAny_bind (tupleItemsOf_ ht (wpAny_bind (wpAny_typeOf tz ?_)))
  rw [if_pos (by decide)]
  refine wpAny_bind (app_rev hz pv ?_)
  have no : ¬ (((xs.size : Int) - 1 == 0 && (-1 : Int) == 1 && xs.size == xs.size) = true) := by
    intro q
    rw [Bool.and_eq_true, Bool.and_eq_true] at q
    have := q.1.2
    cases this
  show wpAny _ _ (if ((xs.size : Int) - 1 == 0 && (-1 : Int) == 1 && xs.size == xs.size) = true then _ else _) _ _ s
  rw [if_neg no, pick_rev]
  first
    | exact wpAny_bind (m := Builtin.Tuple.tupleExact _) (wpAny_newObj_type (wpAny_pure ⟨_, rfl, wpAny_pure h⟩) fits)
    | exact wpAny_bind (m := Builtin.Tuple.tupleExact _) (wpAny_newObj_type (wpAny_bind (wpAny_pure (wpAny_pure ⟨_, rfl, wpAny_pure h⟩))) fits)
    | exact wpAny_bind (wpAny_bind (m := Builtin.Tuple.tupleExact _) (wpAny_newObj_type (wpAny_pure (wpAny_pure ⟨_, rfl, wpAny_pure h⟩)) fits))
    | exact wpAny_bind (wpAny_bind (m := Builtin.Tuple.tupleExact _) (wpAny_newObj_type (wpAny_pure ⟨_, rfl, wpAny_pure h⟩) fits))
end
section
variable {X : Cx} {e : Expr}
def tRevT (K : PySem.W.Frag) (te : TE) (ts : TO) : TE := fun σ H Q => te σ H fun x H1 => ts σ H1 fun u H2 => u = some (-1) ∧ ∃ a xs, x = .ref a ∧ SqT K H2 a xs ∧ NewT H2 xs.reverse Q
theorem pe_revT {st : Expr} {te : TE} {ts : TO} {p2 pos : Pos} (he : PE X e te) (hu : PO X (some st) ts) (hsub : ∀ v sl : Value, subscripted (.Slice none none (some st) p2) false v sl = operate [v, sl] (getItem v sl) := by intros; rfl) : PE X (.Subscript e (.Slice none none (some st) p2) pos) (tRevT X.K te ts) := by
  refine ⟨fun pins s σ H Q I h => ?_⟩
  refine Subscript_ (thn (he.run pins s σ H _ I h) fun v s1 ⟨x, H1, I1, r1, q1⟩ => ?_)
  refine wpAny_Slice ?_
  rw [evalPart_none]
  refine wpAny_pure (wpAny_pure ?_)
  refine thn (hu.run pins s1 σ H1 _ I1 q1) fun vu s3 ⟨u, H3, I3, pu, q3⟩ => ?_
  obtain ⟨rfl, a, xs, rfl, hx, q⟩ := q3
  cases r1
  have I4 : Inv X pins σ H3 { s3 with heap := s3.heap.push { cls := .type "slice", data := .fields #[.none, .none, vu] } } := I3.kept (t' := s3.toks) fun b ob q => Heap.get?_push_of_some _ q
  obtain ⟨its, r, ht, hz⟩ := I4.tuple hx
  have hlen := r.length
  have isl : Heap.IsSliceOf (s3.heap.push { cls := .type "slice", data := .fields #[.none, .none, vu] }) s3.heap.objs.size .none .none vu := Heap.IsSliceOf.new ..
  have hg : wpAny (model X.prog X.w) X.A (getItem (.ref a) (.ref s3.heap.objs.size)) (EP X pins σ Q) X.xe { s3 with heap := s3.heap.push { cls := .type "slice", data := .fields #[.none, .none, vu] } } := by
    refine get_rev ht isl pu ?_ (by rw [List.size_toArray]; omega)
    exact newT_at I4 r.reverse (by rw [List.length_reverse]; exact hz) q
  exact tail_any (ops := [.ref a, .ref s3.heap.objs.size]) ht.typeIs PyProof.Rows.slot_tuple_getitem.lookup hg (hsub _ _)
end
end Ol
set_option Elab.async false
set_option linter.all false
set_option maxRecDepth 100000
set_option maxHeartbeats 4000000
namespace Ol
open PySem PySem.Spec PyProof.Rows L2
/-! x[::-1] of a tuple -/
def oRevT : RV → Option PV
  | .d (.tuple ds) => some (.d (.tuple ds.reverse))
  | _ => none
theorem re_revT {Z : Zn} {σ : L2.St} {H : Hp} {a : ME} {Q : VK} (h : tI Z (m1 oRevT a) σ H Q) : tRevT Z.K (tI Z a) (tIO Z (mP (m1 oNeg (mC (.int 1))))) σ H Q := by
  obtain ⟨B, Hb, env, pv, env', st, e, q⟩ := h
  simp only [m1, Option.bind_eq_some_iff] at e
  obtain ⟨⟨x, e1⟩, ha, r, h1, p, h2, h3⟩ := e
  cases h3
  refine ⟨B, Hb, env, x, _, st, ha, fun v Hb1 H1 g1 rv => ⟨B, Hb1, _, some (-1), _, g1.st, rfl, fun Hb2 H2 g2 => ⟨rfl, ?_⟩⟩⟩
  have rv1 := rv.keep (fun p hp => own_some st p (g1.ow p hp)) g2.ny
  have w := rv1.rd g2.st h1
  unfold oRevT at h2
  split at h2
  · cases w with
    | tup s t nn =>
      cases h2
      refine ⟨_, _, rfl, sqt_ex g2.st.sub s, fun p ob hp hob => ?_⟩
      exact q _ _ _ ((g1.trans g2).nx (Nx.new g2.st.sub hp)) (.d (.tup sqt_new (DpAll.ex (Ex.new (g2.st.sub.free hp)) (DpAll.reverse t)) fun _ => NoD.of hob))
  · cases h2
section
variable {X : Cx} {a : Expr} {ma : ME} {p p1 p2 pos : Pos}
theorem iE_revT {kk : Nat} (ha : PE X a (tI (zn X) ma)) : PE X (.Subscript a (.Slice none none (some (.UnaryOp .USub (.Constant (.int 1) kk p) p1)) p2) pos) (tI (zn X) (m1 oRevT ma)) :=
  pe_mono (pe_revT ha (iO_some (iE_neg iE_int))) fun σ H Q => re_revT
end
/-! while -/
def whL : Nat → MT → MS → MS
  | 0, _, _ => fun _ => none
  | n + 1, t, s => fun env => (t env).bind fun k => if k.1 = true then (s k.2).bind fun r => match r with
      | .nx e => whL n t s e
      | .ct e => whL n t s e
      | .bk e => some (.nx e)
      | .ret v e => some (.ret v e)
    else some (.nx k.2)
def mWhile (t : MT) (s : MS) : MS := whL 300 t s
theorem rs_while {Z : Zn} {t : MT} {s : MS} {D : Ends} {σ : L2.St} {H : Hp} (h : tS Z (mWhile t s) D σ H) : tWhile (tIT Z t) (tS Z s) D σ H := by
  refine ⟨fun m σ H => tS Z (whL m t s) D σ H, ⟨300, h⟩, fun m σ H hh => ?_⟩
  obtain ⟨B, Hb, env, r, st, e, q⟩ := hh
  cases m with
  | zero => cases e
  | succ m =>
    simp only [whL, Option.bind_eq_some_iff] at e
    obtain ⟨⟨k, e1⟩, ht, h2⟩ := e
    refine ⟨B, Hb, env, k, e1, st, ht, fun Hb1 H1 g1 => ?_⟩
    cases k with
    | true =>
      simp only [if_true, Option.bind_eq_some_iff] at h2
      obtain ⟨r1, h3, h4⟩ := h2
      refine (if_pos (rfl : true = true)).mpr ⟨fun σ' H' => tS Z (whL m t s) D σ' H', fun σ' H' w => ⟨m, Nat.lt_succ_self m, w⟩, B, Hb1, e1, r1, g1.st, h3, ?_⟩
      cases r1 with
      | nx e2 => exact fun σ2 Hb2 H2 s2 w2 => ⟨B, Hb2, e2, r, s2, h4, q.more (g1.ny.kb.trans w2)⟩
      | ct e2 => exact fun σ2 Hb2 H2 s2 w2 => ⟨B, Hb2, e2, r, s2, h4, q.more (g1.ny.kb.trans w2)⟩
      | bk e2 => cases h4; exact fun σ2 Hb2 H2 s2 w2 => q σ2 Hb2 H2 s2 (g1.ny.kb.trans w2)
      | ret v e2 => cases h4; exact fun v σ2 Hb2 H2 s2 w2 => q v σ2 Hb2 H2 s2 (g1.ny.kb.trans w2)
    | false =>
      simp only [Bool.false_eq_true, if_false] at h2
      cases h2
      exact (if_neg Bool.false_ne_true).mpr (q σ Hb1 H1 g1.st g1.ny.kb)
section
variable {X : Cx} {c : Expr} {body : List Stmt} {mt : MT} {ms : MS} {pos : Pos}
theorem iS_while (hp : PassesOwn (model X.prog X.w) X.A X.env X.xe) (hc : PT X c (tIT (zn X) mt)) (hb : PSs X body (tS (zn X) ms)) : PS X (.While c body [] pos) (tS (zn X) (mWhile mt ms)) := ps_mono (ps_while hp hc hb) fun D σ H => rs_while
end
section
variable {X : Cx} {e : Expr} {st : Stmt} {Z : Zn} {x : ME} {t : MT} {s : MS}
theorem gWh (h : PS X st (tS Z (mWhile t s))) : PS X st (tS Z (mWhile t s)) := h
end
end Ol
set_option Elab.async false
set_option linter.all false
set_option maxRecDepth 100000
set_option maxHeartbeats 4000000
namespace Ol
open PySem PySem.Spec PyProof.Rows L2
/-! a comprehension with two fors; range with the step -1; sorted of ints -/
def compM (own vs1 : List Nat) (g : MG) (c : MT) (it1 : MI) (g1 : MG) (c1 : MT) (elt : ME) : List D → Env → List D → Option (List D × Env)
  | [], e, acc => some (acc, e)
  | x :: r, e, acc => (g (.d x) e).bind fun e1 => (c e1).bind fun b => if b.1 = true then (it1 b.2).bind fun z => (compL vs1 g1 c1 elt z.1 (wipeE z.2 vs1) acc).bind fun y => compM own vs1 g c it1 g1 c1 elt r (wipeE y.2 own) y.1 else compM own vs1 g c it1 g1 c1 elt r (wipeE b.2 own) acc
def mComp2 (own : List (Str × Nat)) (vs1 : List Nat) (g : MG) (it : MI) (c : MT) (g1 : MG) (it1 : MI) (c1 : MT) (elt : ME) : ME := fun env => (it env).bind fun x => (compM (own.map (·.2)) vs1 g c it1 g1 c1 elt x.1 (wipeE x.2 (own.map (·.2))) []).bind fun z => some (.new (.lst z.1), restE x.2 z.2 (own.map (·.2)))
section
variable {Z : Zn} {B : Bs} {S : Addr → Prop} {D : Addr} {Hk H1 Hc Hb H Hb' H' : Hp} {τ σ' σ : L2.St} {env env' e e' : Env} {acc : List Ol.D} {vs : List Nat}
/-- within a comprehension: the state, seen from its start (where D was free) -/
structure Wn (Z : Zn) (B : Bs) (S : Addr → Prop) (D : Addr) (Hk H1 Hc : Hp) (τ : L2.St) (env : Env) (Hb H : Hp) (acc : List Ol.D) : Prop where
  st : Sta Z B Hb H τ env
  kc : Ex Hc Hb
  ny : Ny S Hk H1 Hb H
  ow : ∀ p, Ow env τ p → S p
  dd : ∃ xs, H D = some (.lst xs) ∧ DpAll Z.K Hb xs acc
  nb : Hb D = none
  h0 : B.H0 D = none
theorem Wn.go (nS : ¬ S D) (w : Wn Z B S D Hk H1 Hc τ env Hb H acc) (g : Go Z B τ env Hb H env' Hb' H') : Wn Z B S D Hk H1 Hc τ env' Hb' H' acc := by
  obtain ⟨xs, d1, d2⟩ := w.dd
  exact ⟨g.st, w.kc.trans g.ny.kb, w.ny.trans (g.ny.mono w.ow), fun p h => w.ow p (g.ow p h), ⟨xs, g.ny.kh D _ (fun z => nS (w.ow D z)) d1, DpAll.ex g.ny.kb d2⟩, g.ny.fr D (by rw [d1]; simp) w.nb, w.h0⟩
theorem Wn.nx (w : Wn Z B S D Hk H1 Hc τ env Hb H acc) (n : Nx Hb H Hb' H') : Wn Z B S D Hk H1 Hc τ env Hb' H' acc := by
  obtain ⟨xs, d1, d2⟩ := w.dd
  exact ⟨w.st.step n, w.kc.trans n.kb, w.ny.trans n.to, w.ow, ⟨xs, n.kh D _ id d1, DpAll.ex n.kb d2⟩, n.fr D (by rw [d1]; simp) w.nb, w.h0⟩
theorem ow_wipe {p : Addr} (h : Ow (wipeE e vs) (L2.wipe σ' vs) p) : Ow e σ' p := by
  obtain ⟨j, bb, oo, z1, z2⟩ := h
  obtain ⟨z3, z4⟩ := wipeE_some z1
  exact ⟨j, bb, oo, z3, by rw [wipe_out z4] at z2; exact z2⟩
theorem Wn.wipe (w : Wn Z B S D Hk H1 Hc σ' env Hb H acc) (hw : L2.wipe σ' vs = L2.wipe τ vs) : Wn Z B S D Hk H1 Hc (L2.wipe τ vs) (wipeE env vs) Hb H acc := by
  have z := w.st.wipe vs
  refine ⟨by rw [hw] at z; exact z, w.kc, w.ny, fun p h => w.ow p (ow_wipe (by rw [hw]; exact h)), w.dd, w.nb, w.h0⟩
theorem Wn.re (w : Wn Z B S D Hk H1 Hc τ env Hb H acc) : Wn Z B S D Hk H1 Hb τ env Hb H acc := ⟨w.st, .rfl, w.ny, w.ow, w.dd, w.nb, w.h0⟩
/-- the store and the tests of a turn -/
theorem wn_turn {g : MG} {is : List Nat} {c : MT} {x : V} {d : Ol.D} {e3 e4 : Env} {b : Bool} {R : L2.St → Bool → Hp → Prop} (hi : ∀ i ∈ is, i ∈ vs) (w : Wn Z B S D Hk H1 Hc (L2.wipe τ vs) env Hb H acc) (hx : Dp Z.K Hb x d) (h3 : g (.d d) env = some e3) (h4 : c e3 = some (b, e4)) (nS : ¬ S D)
    (k : ∀ σ' Hb' H', L2.wipe σ' vs = L2.wipe τ vs → Wn Z B S D Hk H1 Hc σ' e4 Hb' H' acc → R σ' b H') :
    tG Z is g x (L2.wipe τ vs) H fun σ2 H2 => L2.wipe σ2 vs = L2.wipe τ vs ∧ tIT Z c σ2 H2 (R σ2) := by
  refine ⟨B, Hb, H, env, .d d, e3, w.st, own_some w.st, w.st.h0, .d hx, h3, fun σ' s4 hwp how => ?_⟩
  have hw := hwp vs hi
  rw [wipe_wipe] at hw
  have ow4 : ∀ p, Ow e3 σ' p → S p := fun p hp => by
    rcases how p hp with q | q
    · exact w.ow p q
    · exact absurd q (own_some s4 p hp)
  have w4 : Wn Z B S D Hk H1 Hc σ' e3 Hb H acc := ⟨s4, w.kc, w.ny, ow4, w.dd, w.nb, w.h0⟩
  exact ⟨hw, B, Hb, e3, b, e4, s4, h4, fun Hb5 H5 g5 => k σ' Hb5 H5 hw (w4.go nS g5)⟩
/-- the element of a turn -/
theorem wn_elt {elt : ME} {y0 : PV} {e5 : Env} {d : Ol.D} {N : Hp → Prop} (nS : ¬ S D) (hD : H1 D = none) (w : Wn Z B S D Hk H1 Hc σ env Hb H acc) (h6 : elt env = some (y0, e5)) (h7 : fz y0 = some d) (hz : acc.length < 100000)
    (k : ∀ Hb' H', Wn Z B S D Hk H1 Hc σ e5 Hb' H' (acc ++ [d]) → N H') :
    tI Z elt σ H fun y H2 => ∃ a, H2 D = some (.lst a) ∧ a.length < sizeLine ∧ N (upd H2 D (.lst (a ++ [y]))) := by
  refine ⟨B, Hb, env, y0, e5, w.st, h6, fun v Hb6 H6 g6 rv => ?_⟩
  obtain ⟨xs, d5, c3⟩ := w.dd
  have w6 := w.go nS g6
  have d6 : H6 D = some (.lst xs) := g6.ny.kh D _ (fun z => nS (w.ow D z)) d5
  have hxs : xs.length = acc.length := DpAll.length c3
  refine ⟨xs, d6, Nat.lt_of_lt_of_le (by rw [hxs]; exact hz) (by decide), ?_⟩
  obtain ⟨Hb7, kn, kz, dv⟩ : ∃ Hb7, Kn H Hb6 H6 Hb7 ∧ Hb7 D = none ∧ Dp Z.K Hb7 v d := by
    cases rv with
    | d a => cases h7; exact ⟨Hb6, ⟨.rfl, g6.st.sub, fun _ _ z => z⟩, w6.nb, a⟩
    | new a b1 c =>
      rename_i p o
      cases c with
      | lst y1 y2 =>
        cases h7
        refine ⟨_, ⟨Ex.new b1, upd_ex g6.st.sub y1, fun y w1 w2 => ?_⟩, ?_, .lst (.inl (.of upd_same)) (DpAll.ex (Ex.new b1) y2)⟩
        · rw [upd_ne (fun w => w1 (by rw [w]; exact a))]; exact w2
        · rw [upd_ne (fun w => by rw [← w, d5] at a; cases a)]; exact w6.nb
      | set _ => cases h7
      | dic _ _ _ => cases h7
      | dit _ _ => cases h7
    | slot a => cases h7
    | tup a t => cases h7
  have g7 := g6.know w.st kn
  have w7 := w.go nS g7
  have nOw : ¬ Ow e5 σ D := fun z => nS (w7.ow D z)
  refine k Hb7 _ ⟨w7.st.updN w7.h0 kz nOw, w7.kc, w7.ny.upd hD kz, w7.ow, ⟨_, upd_same, DpAll.append (DpAll.ex (g6.ny.kb.trans kn.kb) c3) (.cons dv .nil)⟩, kz, w7.h0⟩
theorem wipe_sub {us vs : List Nat} {τ : L2.St} (hv : ∀ i ∈ us, i ∈ vs) : L2.wipe (L2.wipe τ us) vs = L2.wipe τ vs := by
  apply List.ext_getElem?
  intro j
  by_cases hj : j ∈ vs
  · rw [wipe_at hj, wipe_at hj, wipe_length]
  · rw [wipe_out hj, wipe_out hj, wipe_out fun m => hj (hv j m)]
theorem wn_iter {it : MI} {ds : List Ol.D} {R : It → Hp → Prop} (nS : ¬ S D) (w : Wn Z B S D Hk H1 Hc σ env Hb H acc) (h : it env = some (ds, e')) (k : ∀ J Hb' H', Wn Z B S D Hk H1 Hc σ e' Hb' H' acc → ItR Z J ds Hb' → R J H') : tII Z it σ H R :=
  ⟨B, Hb, env, ds, e', w.st, h, fun J Hb' H' g r => k J Hb' H' (w.go nS g) r⟩
theorem loop_it {J : It} {n : Nat} {G : Hp → Prop} {Y : Nat → Hp → V → Hp → Prop} (w : Walk J n G Y) {Body : (Hp → Prop) → V → Hp → Prop} {Qd : Hp → Prop} {Hs : Hp} (Pv : Nat → Hp → Prop) (h0 : Pv 0 Hs) (hG : ∀ i H, i ≤ n → Pv i H → G H)
    (hs : ∀ i x H H', i < n → Pv i H → Y i H x H' → Body (Pv (i + 1)) x H') (hd : ∀ H, Pv n H → Qd H) :
    ∃ W : Nat → Nat → Hp → Prop, (∃ m, W 0 m Hs) ∧ ∀ i m H, W i m H → (J.stop i H ∧ Qd H) ∨ (J.go i H ∧ ∃ Nx : Hp → Prop, (∀ H', Nx H' → ∃ m', m' < m ∧ W (i + 1) m' H') ∧ ∀ x H', J.yld i H x H' → Body Nx x H') := by
  refine ⟨fun i m H => m = n - i ∧ i ≤ n ∧ Pv i H, ⟨n, by simp, Nat.zero_le _, h0⟩, ?_⟩
  rintro i m H ⟨rfl, hi, p⟩
  have q := hG i H hi p
  by_cases hlt : i < n
  · exact .inr ⟨w.goes i H hlt q, Pv (i + 1), fun H' p' => ⟨n - (i + 1), by omega, rfl, hlt, p'⟩, fun x H' y => hs i x H H' hlt p (w.yields i H x H' hlt q y)⟩
  · have e : i = n := by omega
    subst e
    exact .inl ⟨w.stops H q, hd H p⟩
theorem re_comp2 {own vs1 is is1 : List Nat} {g g1 : MG} {it it1 : MI} {c c1 : MT} {elt : ME} {ow : List (Str × Nat)} {Q : VK} (how : ow.map (·.2) = own) (hv : ∀ i ∈ vs1, i ∈ own) (hi : ∀ i ∈ is, i ∈ own) (hi1 : ∀ i ∈ is1, i ∈ vs1) (h : tI Z (mComp2 ow vs1 g it c g1 it1 c1 elt) σ H Q) :
    tLc2 (tII Z it) (tG Z is g) (tIT Z c) (tII Z it1) (tG Z is1 g1) (tIT Z c1) (tI Z elt) own vs1 σ H Q := by
  obtain ⟨B, Hb, env, pv, env', st, e, q⟩ := h
  unfold mComp2 at e
  rw [how] at e
  simp only [Option.bind_eq_some_iff] at e
  obtain ⟨⟨ds, e1⟩, ha, ⟨res, ez⟩, h2, h3⟩ := e
  cases h3
  refine ⟨B, Hb, env, ds, e1, st, ha, fun J Hk H1 g1' wi => ?_⟩
  intro D hD
  obtain ⟨G, Y, wk, hG, hY⟩ := wi
  have stW := g1'.st.wipe own
  have hDb : Hk D = none := g1'.st.sub.free hD
  have hD0 : B.H0 D = none := g1'.st.h0 D hD
  have nS : ¬ Ow (wipeE e1 own) (L2.wipe σ own) D := fun z => own_some stW D z hD
  refine loop_it wk (fun i H => ∃ Hb env acc, Wn Z B (Ow (wipeE e1 own) (L2.wipe σ own)) D Hk H1 Hk (L2.wipe σ own) env Hb H acc ∧ compM own vs1 g c it1 g1 c1 elt (ds.drop i) env acc = some (res, ez))
    ⟨Hk, wipeE e1 own, [], ⟨stW.updN hD0 hDb nS, .rfl, (Ny.refl g1'.st.sub).upd hD hDb, fun _ z => z, ⟨[], upd_same, .nil⟩, hDb, hD0⟩, by simpa using h2⟩
    (fun i H hi ⟨Hb, env, acc, s, _⟩ => hG H (s.kc.trans s.st.sub)) (fun i x H2 H3 hlt ⟨Hb2, env2, acc, s2, hf⟩ y => ?_) (fun H2 ⟨Hb2, env2, acc, s2, hf⟩ => ?_)
  · obtain ⟨Hb3, d, n, hd, hx⟩ := hY i Hb2 H2 x H3 hlt s2.kc s2.st.sub y
    rw [drop_cons hlt] at hf
    have ed : ds[i] = d := by
      have z := List.getElem?_eq_getElem hlt
      rw [hd] at z
      exact (Option.some.inj z).symm
    rw [ed] at hf
    simp only [compM, Option.bind_eq_some_iff] at hf
    obtain ⟨e3, h3, ⟨b, e4⟩, h4, h5⟩ := hf
    have s3 := s2.nx n
    refine wn_turn hi s3 hx h3 h4 nS fun σ' Hb5 H5 hw w5 => ?_
    cases b with
    | false =>
      simp only [Bool.false_eq_true, if_false] at h5 ⊢
      exact ⟨Hb5, _, acc, w5.wipe hw, h5⟩
    | true =>
      simp only [if_true, Option.bind_eq_some_iff] at h5 ⊢
      obtain ⟨⟨ds1, e5⟩, h6, ⟨res1, e6⟩, h7, h8⟩ := h5
      refine wn_iter nS w5 h6 fun J1 Hk1 Hd1 w6 wi1 => ?_
      obtain ⟨G1, Y1, wk1, hG1, hY1⟩ := wi1
      refine loop_it wk1 (fun j H => ∃ Hb env acc, Wn Z B (Ow (wipeE e1 own) (L2.wipe σ own)) D Hk H1 Hk1 (L2.wipe σ' vs1) env Hb H acc ∧ Ex Hk Hk1 ∧ compL vs1 g1 c1 elt (ds1.drop j) env acc = some (res1, e6))
        ⟨Hk1, wipeE e5 vs1, acc, (w6.wipe rfl).re, w6.kc, by simpa using h7⟩
        (fun i H hi ⟨Hb, env, acc, s, _⟩ => hG1 H (s.kc.trans s.st.sub)) (fun j x1 H7 H8 hlt1 ⟨Hb7, env7, acc7, s7, kk, hf1⟩ y1 => ?_) (fun H7 ⟨Hb7, env7, acc7, s7, kk, hf1⟩ => ?_)
      · obtain ⟨Hb8, d1, n1, hd1, hx1⟩ := hY1 j Hb7 H7 x1 H8 hlt1 s7.kc s7.st.sub y1
        rw [drop_cons hlt1] at hf1
        have ed1 : ds1[j] = d1 := by
          have z := List.getElem?_eq_getElem hlt1
          rw [hd1] at z
          exact (Option.some.inj z).symm
        rw [ed1] at hf1
        simp only [compL, Option.bind_eq_some_iff] at hf1
        obtain ⟨e9, h9, ⟨b1, e10⟩, h10, h11⟩ := hf1
        have s8 := s7.nx n1
        refine wn_turn hi1 s8 hx1 h9 h10 nS fun σ3 Hb9 H9 hw3 w9 => ?_
        cases b1 with
        | false =>
          simp only [Bool.false_eq_true, if_false] at h11 ⊢
          exact ⟨Hb9, _, acc7, w9.wipe hw3, kk, h11⟩
        | true =>
          simp only [if_true, Option.bind_eq_some_iff] at h11 ⊢
          obtain ⟨⟨y0, e11⟩, h12, d', h13, h14⟩ := h11
          split at h14
          · rename_i hz
            exact wn_elt (N := fun H' => ∃ Hb env acc, Wn Z B (Ow (wipeE e1 own) (L2.wipe σ own)) D Hk H1 Hk1 (L2.wipe σ' vs1) env Hb H' acc ∧ Ex Hk Hk1 ∧ compL vs1 g1 c1 elt (ds1.drop (j + 1)) env acc = some (res1, e6)) nS hD w9 h12 h13 hz fun Hb10 H10 w10 => ⟨Hb10, _, _, w10.wipe hw3, kk, h14⟩
          · cases h14
      · rw [List.drop_eq_nil_of_le (Nat.le_refl _)] at hf1
        cases hf1
        have hw4 : L2.wipe (L2.wipe σ' vs1) own = L2.wipe σ own := by rw [← hw]; exact wipe_sub hv
        have w8 := s7.wipe (vs := own) (τ := σ) hw4
        exact ⟨Hb7, _, _, ⟨w8.st, kk.trans w8.kc, w8.ny, w8.ow, w8.dd, w8.nb, w8.h0⟩, h8⟩
  · rw [List.drop_eq_nil_of_le (Nat.le_refl _)] at hf
    cases hf
    obtain ⟨xs, c1, c3⟩ := s2.dd
    exact q (.ref D) Hb2 H2 (g1'.trans (Go.rest g1'.st ⟨s2.ny, s2.st, s2.ow⟩)) (.new (g1'.ny.back D hD) s2.nb (.lst c1 c3))
end
/-! range(a, b, -1) -/
def downD (i : Int) (n : Nat) : List D := (List.range n).map fun (k : Nat) => .int (i + (k : Int) * (-1))
section
variable {Z : Zn} {σ : L2.St} {H Hb : Hp}
theorem itr_down {lo : Int} {n : Nat} : ItR Z (Itc lo (-1) n) (downD lo n) Hb := by
  refine ⟨fun _ => True, YFn (fun i => .int (lo + (i : Nat) * (-1))), ?_, fun H e => trivial, fun i Hb1 H x H' hi e1 e2 y => ?_⟩
  · unfold downD; rw [List.length_map, List.length_range]; exact walk_rangeC
  · obtain ⟨rfl, rfl⟩ := y
    have hi' : i < n := by simpa [downD] using hi
    exact ⟨Hb1, .int (lo + (i : Nat) * (-1)), .refl e2, by simp [downD, hi'], .int _⟩
def mRange3 (a : MA) : MI := fun env => (a env).bind fun xs => match xs.1 with
  | [.d (.int i), .d (.int j), .d (.int c)] => if c = -1 ∧ (-(2 ^ 62) ≤ i ∧ i < 2 ^ 62) ∧ -(2 ^ 62) ≤ j ∧ j < 2 ^ 62 then some (downD i (i - j).toNat, xs.2) else none
  | _ => none
theorem ri_range3 {a : MA} {R : It → Hp → Prop} (h : tII Z (mRange3 a) σ H R) : iRng3 (tIA Z a) σ H R := by
  obtain ⟨B, Hb, env, ds, env', st, e, q⟩ := h
  simp only [mRange3, Option.bind_eq_some_iff] at e
  obtain ⟨⟨xs, e1⟩, ha, e⟩ := e
  refine ⟨B, Hb, env, xs, e1, st, ha, fun vs ps Hb1 H1 g1 rv => ?_⟩
  split at e
  · rename_i x1 i j c hx
    have hx' : xs = _ := hx
    subst hx'
    split at e
    · rename_i cc
      obtain ⟨rfl, c1, c2⟩ := cc
      cases e
      cases rv with
      | d a t =>
        cases a
        cases t with
        | d a t =>
          cases a
          cases t with
          | d a t =>
            cases a
            cases t
            exact ⟨i, j, -1, _, rfl, RgC.neg c1.1 c1.2 c2.1 c2.2, q _ Hb1 H1 g1 itr_down⟩
    · cases e
  · cases e
/-! sorted(xs), whole numbers, any number of them -/
def oSortL : List RV → Option PV
  | [.d (.list ds)] => (intsOf ds).bind fun zs => some (.new (.lst ((sortI zs).map .int)))
  | _ => none
theorem s_sortL : OpN Z (rSortedI Z.K) oSortL := by
  intro Hb H vs rs pv e rr h Q q
  unfold oSortL at h
  split at h
  · obtain ⟨v, rfl, r⟩ := rdrs1 rr
    cases r with
    | lst s t =>
      simp only [Option.bind_eq_some_iff] at h
      obtain ⟨zs, h1, h2⟩ := h
      cases h2
      have hd := intsOf_eq h1
      subst hd
      have hv := DpAll.ints_inv t
      subst hv
      refine ⟨_, zs, rfl, s, fun ns' p hp hr hn => ?_⟩
      have ey := sortI_of hp hr
      subst ey
      exact q _ _ _ (Nx.newOwn e hn) (.new hn (e.free hn) (.lst upd_same (DpAll.ints _)))
  · cases h
end
section
variable {X : Cx} {Z : Zn} {tg tg1 a b c0 e iter iter1 elt : Expr} {p pos : Pos} {mas : MA} {g g1 : MG} {is is1 vs1 : List Nat} {mi mi1 : MI} {mt mt1 : MT} {ma : ME} {ifs ifs1 : List Expr} {scope : Scope} {own : List (Str × Nat)} {m : MI} {l : MA}
theorem iI_range3 (hg : Gl X "range") (hm : X.mg "range" = none) (ha : PA X [a, b, c0] (tIA (zn X) mas)) (hs : starEach [a, b, c0] X.env = (false, eval a X.env) :: starEach [b, c0] X.env := by rfl) (hpl : (backTo pos (starEach [b, c0] X.env)).any (·.1) = false := by rfl) : PI X tg (.Call (.Name "range" p) [a, b, c0] [] pos) (tII (zn X) (mRange3 mas)) :=
  ⟨fun pins s σ H R I q => (pi_range3 hg hm ha hs hpl).run pins s σ H R I (ri_range3 q)⟩
theorem iE_lc2 (hc : X.calm = true) (hN : X.N.Nodup) (hi : PI X tg iter (tII (zn X) mi)) (ok : BlkOk X.N X.env.scope scope own)
    (hg : ∀ (s : Shared) (H : Hp) (C : Addr) (cl : List (Str × Addr)) (fp : List Addr), PG (X.blk s H scope (compEnvC scope cl C X.env) fp) tg (tG (zn X) is g)) (ht : ∀ (s : Shared) (H : Hp) (C : Addr) (cl : List (Str × Addr)) (fp : List Addr), PTs (X.blk s H scope (compEnvC scope cl C X.env) fp) ifs (tIT (zn X) mt))
    (hi1 : ∀ (s : Shared) (H : Hp) (C : Addr) (cl : List (Str × Addr)) (fp : List Addr), PI (X.blk s H scope (compEnvC scope cl C X.env) fp) tg1 iter1 (tII (zn X) mi1))
    (hg1 : ∀ (s : Shared) (H : Hp) (C : Addr) (cl : List (Str × Addr)) (fp : List Addr), PG (X.blk s H scope (compEnvC scope cl C X.env) fp) tg1 (tG (zn X) is1 g1)) (ht1 : ∀ (s : Shared) (H : Hp) (C : Addr) (cl : List (Str × Addr)) (fp : List Addr), PTs (X.blk s H scope (compEnvC scope cl C X.env) fp) ifs1 (tIT (zn X) mt1))
    (he : ∀ (s : Shared) (H : Hp) (C : Addr) (cl : List (Str × Addr)) (fp : List Addr), PE (X.blk s H scope (compEnvC scope cl C X.env) fp) elt (tI (zn X) ma)) (hv : ∀ i ∈ vs1, i ∈ own.map (·.2)) (his : ∀ i ∈ is, i ∈ own.map (·.2)) (his1 : ∀ i ∈ is1, i ∈ vs1) (hs : ∀ x, foldedSetIterable iter X.env x = pure x := by intro _; rfl) (hs1 : ∀ env x, foldedSetIterable iter1 env x = pure x := by intro _ _; rfl) :
    PE X (.ListComp elt [⟨tg, iter, ifs, 0⟩, ⟨tg1, iter1, ifs1, 0⟩] scope pos) (tI (zn X) (mComp2 own vs1 g mi mt g1 mi1 mt1 ma)) := pe_mono (pe_lc2 (vs1 := vs1) hc hN hi ok hv hg ht hi1 hg1 ht1 he hs hs1) fun σ H Q => re_comp2 rfl hv his his1
theorem gI3 (h : PI X tg e (tII Z (mRange3 l))) : PI X tg e (tII Z (mRange3 l)) := h
theorem gLc2 (h : PE X e (tI Z (mComp2 own vs1 g mi mt g1 mi1 mt1 ma))) : PE X e (tI Z (mComp2 own vs1 g mi mt g1 mi1 mt1 ma)) := h
end
end Ol
set_option Elab.async false
set_option linter.all false
namespace Ol
open PySem PySem.Spec PyProof.Rows L2
section
variable {X : Cx} {Z : Zn}
theorem cE {e : Expr} {t : TE} (h : PE X e t) : PE X e t := h
theorem cT {e : Expr} {t : TT} (h : PT X e t) : PT X e t := h
theorem cA {es : List Expr} {t : TA} (h : PA X es t) : PA X es t := h
theorem cK {ks : List Keyword} {t : TA} (h : PK X ks t) : PK X ks t := h
theorem cS {s : Stmt} {t : TS} (h : PS X s t) : PS X s t := h
theorem cSs {s : List Stmt} {t : TS} (h : PSs X s t) : PSs X s t := h
theorem cM2 {e : Expr} {f : RV → RV → Option PV} {x y : ME} (h : PE X e (tI Z (m2 f x y))) : PE X e (tI Z (m2 f x y)) := h
theorem cB {e : Expr} {f : List RV → Option PV} {l : MA} (h : PE X e (tI Z (mB f l))) : PE X e (tI Z (mB f l)) := h
theorem cMt {e : Expr} {k i : Nat} {f : Ob → List D → Option (PV × Ob)} {l : MA} (h : PE X e (tI Z (mMeth k i f l))) : PE X e (tI Z (mMeth k i f l)) := h
theorem cCh {e : Expr} {f g : RV → RV → Option PV} {x y c : ME} (h : PE X e (tI Z (mChain f g x y c))) : PE X e (tI Z (mChain f g x y c)) := h
theorem cT2 {e : Expr} {f : RV → RV → Option PV} {x y : ME} (h : PT X e (tIT Z (mTest (m2 f x y)))) : PT X e (tIT Z (mTest (m2 f x y))) := h
theorem cTCh {e : Expr} {f g : RV → RV → Option PV} {x y c : ME} (h : PT X e (tIT Z (mTest (mChain f g x y c)))) : PT X e (tIT Z (mTest (mChain f g x y c))) := h
end
end Ol
set_option Elab.async false
set_option linter.all false
set_option maxRecDepth 100000
set_option maxHeartbeats 4000000
/-! own: dicts with tuples of texts as keys, in the language -/
namespace Ol
open PySem PySem.Spec PyProof.Rows L2
def hasS (kvs : List (List Str × D)) (k : List Str) : Bool := kvs.any fun q => decide (q.1 = k)
def putS (kvs : List (List Str × D)) (k : List Str) (d : D) : List (List Str × D) := if hasS kvs k = true then kvs.map (fun q => if q.1 = k then (q.1, d) else q) else kvs ++ [(k, d)]
def mergeS : List (List Str × D) → List (List Str × D) → List (List Str × D)
  | acc, [] => acc
  | acc, q :: r => mergeS (putS acc q.1 q.2) r
def mNewT : ME := fun env => some (.new (.dit []), env)
def fSetT : Ob → D → D → Option Ob
  | .dit kvs, .tuple ds, d => (strsOf ds).bind fun k => if kvs.length < 100000 then some (.dit (putS kvs k d)) else none
  | _, _, _ => none
def oInT (neg : Bool) : RV → RV → Option PV
  | .d (.tuple ds), .t kvs => (strsOf ds).bind fun k => some (bD (neg ^^ hasS kvs k))
  | _, _ => none
def oListT : List RV → Option PV
  | [.t kvs] => some (.new (.lst (kvs.map fun q => .tuple (q.1.map .str))))
  | _ => none
def pairOf : D → Option (List Str × D)
  | .tuple [.tuple ds, v] => (strsOf ds).bind fun k => some (k, v)
  | _ => none
def pairsOf : List D → Option (List (List Str × D))
  | [] => some []
  | d :: r => (pairOf d).bind fun p => (pairsOf r).bind fun ps => some (p :: ps)
def oDictT : List RV → Option PV
  | [.d (.list ds)] => (pairsOf ds).bind fun ps => some (.new (.dit (mergeS [] ps)))
  | _ => none
section
variable {K : Fg} {Hb H : Hp} {ks : KE3} {kvs : List (List Str × D)}
theorem key_dp {b : Addr} {k : List Str} (e : Ex Hb H) (h : Dp K Hb (.ref b) (.tuple (k.map .str))) : SqT K H b ((k.map (Sum.inr : Str → Key)).map kV) := by
  cases h with
  | tup s t _ =>
    rw [DpAll.strs_inv t] at s
    rw [List.map_map]
    exact sqt_ex e s
theorem dtR_kns (e : Ex Hb H) (r : DtR K Hb ks kvs) : Kns K H ks := by
  induction r with
  | nil => intro q hq; cases hq
  | cons a _ _ ih =>
    intro q hq
    rcases List.mem_cons.mp hq with rfl | hq
    · exact key_dp e a
    · exact ih q hq
theorem inr_inj {a b : List Str} : a.map (Sum.inr : Str → Key) = b.map Sum.inr ↔ a = b := by
  constructor
  · intro h
    have := congrArg (List.map fun x : Key => match x with | .inr s => s | .inl _ => ⟨#[]⟩) h
    simpa [List.map_map, Function.comp_def] using this
  · rintro rfl; rfl
theorem dtR_has (r : DtR K Hb ks kvs) (k : List Str) : hasT ks (k.map .inr) = hasS kvs k := by
  induction r with
  | nil => rfl
  | @cons k1 b v d ks kvs a c _ ih =>
    have h1 : hasT ((k1.map .inr, b, v) :: ks) (k.map .inr) = (decide (k1.map (Sum.inr : Str → Key) = k.map .inr) || hasT ks (k.map .inr)) := rfl
    have h2 : hasS ((k1, d) :: kvs) k = (decide (k1 = k) || hasS kvs k) := rfl
    rw [h1, h2, ih, decide_eq_decide.mpr inr_inj]
theorem dtR_put {k : List Str} {b : Addr} {v : V} {d : D} (r : DtR K Hb ks kvs) (hk : Dp K Hb (.ref b) (.tuple (k.map .str))) (hv : Dp K Hb v d) : DtR K Hb (putT ks (k.map .inr) b v) (putS kvs k d) := by
  unfold putT putS
  rw [dtR_has r k]
  by_cases c : hasS kvs k = true
  · rw [if_pos c, if_pos c]
    clear c
    induction r with
    | nil => exact .nil
    | @cons k1 b1 v1 d1 ks kvs a1 c1 _ ih =>
      rw [List.map_cons, List.map_cons]
      by_cases z : k1 = k
      · subst z
        simp only [if_true]
        exact .cons a1 hv ih
      · have z2 : ¬ k1.map (Sum.inr : Str → Key) = k.map .inr := fun w => z (inr_inj.mp w)
        simp only [z, z2, if_false]
        exact .cons a1 c1 ih
  · rw [if_neg c, if_neg c]
    clear c
    induction r with
    | nil => exact .cons hk hv .nil
    | cons a1 c1 _ ih => exact .cons a1 c1 ih
theorem dtR_merge {ps : KE3} {qs : List (List Str × D)} (r : DtR K Hb ps qs) : ∀ {ks : KE3} {kvs : List (List Str × D)}, DtR K Hb ks kvs → DtR K Hb (mergeT ks ps) (mergeS kvs qs) := by
  induction r with
  | nil => exact fun t => t
  | cons a c _ ih => exact fun t => ih (dtR_put t a c)
theorem dtR_len (r : DtR K Hb ks kvs) : ks.length = kvs.length := by
  induction r with
  | nil => rfl
  | cons _ _ _ ih => simp [ih]
theorem dtR_keys (r : DtR K Hb ks kvs) : DpAll K Hb (ks.map fun q => V.ref q.2.1) (kvs.map fun q => .tuple (q.1.map .str)) := by
  induction r with
  | nil => exact .nil
  | cons a _ _ ih => exact .cons a ih
theorem putS_len (kvs : List (List Str × D)) (k : List Str) (d : D) : (putS kvs k d).length ≤ kvs.length + 1 := by
  unfold putS
  split <;> simp
theorem pairs_dp {vs : List V} {ds : List D} (e : Ex Hb H) : ∀ {qs : List (List Str × D)}, DpAll K Hb vs ds → pairsOf ds = some qs → ∃ (ps : List Addr) (ks : KE3), vs = ps.map V.ref ∧ Paired (fun p q => SqT K H p [.ref q.2.1, q.2.2]) ps ks ∧ DtR K Hb ks qs := by
  induction ds generalizing vs with
  | nil =>
    intro qs h f
    cases h
    cases f
    exact ⟨[], [], rfl, .nil, .nil⟩
  | cons d ds ih =>
    intro qs h f
    simp only [pairsOf, Option.bind_eq_some_iff] at f
    obtain ⟨p, f1, qs', f2, f3⟩ := f
    cases f3
    cases h with
    | cons a t =>
      obtain ⟨ps, ks, rfl, h1, h2⟩ := ih t f2
      unfold pairOf at f1
      split at f1
      · simp only [Option.bind_eq_some_iff] at f1
        obtain ⟨k, g1, g2⟩ := f1
        cases g2
        have hk := strsOf_eq g1
        subst hk
        cases a with
        | @tup pa xs _ s u _ =>
          cases u with
          | cons u1 u2 =>
            cases u2 with
            | cons u3 u4 =>
              cases u4
              cases u1 with
              | @tup b ys _ w1 w2 w3 =>
                exact ⟨pa :: ps, (k.map .inr, b, _) :: ks, rfl, .cons (sqt_ex e s) h1, .cons (.tup w1 w2 w3) u3 h2⟩
      · cases f1
end
section
variable {Z : Zn}
theorem s_inT (neg : Bool) : Op2 Z (rInT Z.K Z.P Z.w neg) (oInT neg) := by
  intro Hb H x y dx dy pv e rx ry h Q q
  unfold oInT at h
  split at h
  · rename_i ds kvs
    simp only [Option.bind_eq_some_iff] at h
    obtain ⟨k, h1, h2⟩ := h
    cases h2
    have hk := strsOf_eq h1
    subst hk
    cases ry with
    | t ow =>
      cases ow with
      | @dit _ ks w1 w2 =>
        cases rx with
        | tup s t n =>
          refine ⟨_, ks, k.map .inr, _, rfl, rfl, w1, key_dp e (.tup s t n), dtR_kns e w2, ?_⟩
          rw [dtR_has w2]
          exact q _ _ _ (.refl e) (vrB _)
  · cases h
theorem s_listT : OpN Z (fun xs H Q => ∃ d ks, xs = [V.ref d] ∧ H d = some (DtO Z.P Z.w d ks) ∧ ∀ p, H p = none → Q (.ref p) (upd H p (.lst (ks.map fun q => V.ref q.2.1)))) oListT := by
  intro Hb H vs rs pv e rr h Q q
  unfold oListT at h
  split at h
  · cases h
    obtain ⟨v, rfl, r⟩ := rdrs1 rr
    cases r with
    | t ow =>
      cases ow with
      | dit w1 w2 => exact ⟨_, _, rfl, w1, fun p hp => q _ _ _ (Nx.newOwn e hp) (.new hp (e.free hp) (.lst upd_same (dtR_keys w2)))⟩
  · cases h
theorem s_dictT : OpN Z (rDictT Z.K Z.P Z.w) oDictT := by
  intro Hb H vs rs pv e rr h Q q
  unfold oDictT at h
  split at h
  · simp only [Option.bind_eq_some_iff] at h
    obtain ⟨qs, h1, h2⟩ := h
    cases h2
    obtain ⟨v, rfl, r⟩ := rdrs1 rr
    cases r with
    | @lst p xs _ s t =>
      obtain ⟨ps, ks, rfl, h3, h4⟩ := pairs_dp e t h1
      exact ⟨p, ps, ks, rfl, s, h3, dtR_kns e h4, fun p hp => q _ _ _ (Nx.newOwn e hp) (.new hp (e.free hp) (.dit upd_same (dtR_merge h4 .nil)))⟩
  · cases h
theorem t_setT : OpS Z (rSetT Z.K Z.P Z.w) fSetT := by
  intro Hb H p o k x dk d o' e ow hb hk hx h Q q
  unfold fSetT at h
  split at h
  · simp only [Option.bind_eq_some_iff] at h
    obtain ⟨kk, h1, h2⟩ := h
    split at h2
    · rename_i hl
      cases h2
      have hs := strsOf_eq h1
      subst hs
      cases ow with
      | @dit _ ks w1 w2 =>
        cases hk with
        | @tup b ys _ s t n =>
          have hkl := dtR_len w2
          refine ⟨p, ks, kk.map .inr, b, rfl, rfl, w1, key_dp e (.tup s t n), dtR_kns e w2, Nat.lt_of_lt_of_le (by rw [hkl]; exact hl) (by decide), q _ (.dit upd_same (dtR_put w2 (.tup s t n) hx))⟩
    · cases h2
  · cases h
theorem re_newT {σ : L2.St} {H : Hp} {Q : VK} (h : tI Z mNewT σ H Q) : tDtNew Z.P Z.w σ H Q := by
  obtain ⟨B, Hb, env, pv, env', st, e, q⟩ := h
  cases e
  exact fun p hp => q _ _ _ ((Go.refl st).nx (Nx.newOwn st.sub hp)) (.new hp (st.sub.free hp) (.dit upd_same .nil))
end
section
variable {X : Cx} {a b : Expr} {es : List Expr} {ma mb : ME} {mas : MA} {pos p : Pos} {i : Nat} {x : Str}
theorem gSx (f : Ob → D → D → Option Ob) {Z : Zn} {st : Stmt} {i : Nat} {x y : ME} (h : PS X st (tS Z (mSetIx i f x y))) : PS X st (tS Z (mSetIx i f x y)) := h
theorem gNewT {e : Expr} (h : PE X e (tI (zn X) mNewT)) : PE X e (tI (zn X) mNewT) := h
theorem iE_newT : PE X (.Dict [] [] pos) (tI (zn X) mNewT) := pe_mono pe_dtNew fun σ H Q => re_newT
theorem iS_setIxT {o : Expr} (hu : X.A.units + 1 < cLine) (ho : PE X o (tVar i)) (hi : PE X b (tI (zn X) mb)) (he : PE X a (tI (zn X) ma)) 
    (ha : ∀ v, assign (.Subscript o b p) X.env v = (do
      let ov ← holding [v] (eval o X.env)
      let iv ← holding [v, ov] (eval b X.env)
      standAt p
      holding [v, ov, iv] (setItem ov iv v)
      release [v, ov, iv] []) := by intro _; rfl) (hs : swapsWithSole [.Subscript o b p] a pos.line X.env = pure false := by rfl) (hw : swappedStores [.Subscript o b p] a X.env = pure none := by rfl) (h1 : (assignEach [.Subscript o b p] X.env).map (·.2) = [assign (.Subscript o b p) X.env] := by rfl) :
    PS X (.Assign [.Subscript o b p] a pos) (tS (zn X) (mSetIx i fSetT mb ma)) := ps_mono (ps_asg he (pg_sub ho hi (set_dt hu) ha) hs hw h1) fun D σ H => rs_setIx t_setT
theorem room3 {k : Nat} {A : Around} (r : Room k A) : A.units + 1 < cLine := by have := r.units; omega
theorem room4 {k : Nat} {A : Around} (r : Room k A) : A.units + 3 < cLine := by have := r.units; omega
end
end Ol
set_option Elab.async false
set_option linter.all false
set_option maxRecDepth 100000
set_option maxHeartbeats 4000000
/-! own: functions that are called where no repr is under way (guards: none) -/
namespace Ol
open PySem PySem.Spec PyProof.Rows L2
/-- what a def promises where nothing is guarded -/
structure FnG (P : Program) (w : World) (K : PySem.W.Frag) (mg : Str → Option Value) (base : Heap) (CX : CXT) (k : Nat) (f : Addr) (fd : FuncData) (ps : List Str) (sp : Sp) : Prop where
  len : ∀ vs H Q E, sp vs H Q E → vs.length = ps.length
  run : ∀ (A : Around) (outer : List PySem.Env) (s : Shared) (H : Hp) (args : Args) (us : List Value) (vs : List V) (Q : VK) (E : XK), A.guards = some [] → Room k A → Env0 P w K mg base A outer s H → BindsTo s fd args (ps.zip us) → Vals vs us → sp vs H Q E →
    codeAny (model P w) A (.call (.ref f) args) (CR CX outer P w H s Q E) s
section
variable {P : Program} {w : World} {K : PySem.W.Frag} {mg : Str → Option Value} {base : Heap} {CX : CXT} {k : Nat} {f : Addr} {fd : FuncData} {ps N : List Str} {sp sp' : Sp}
theorem FnG.of (F : FnOk P w K mg base CX k f fd ps sp) : FnG P w K mg base CX k f fd ps sp := ⟨F.len, fun A outer s H args us vs Q E _ r e b v q => F.run A outer s H args us vs Q E r e b v q⟩
theorem FnG.imp (F : FnG P w K mg base CX k f fd ps sp) (h : ∀ vs H Q E, sp' vs H Q E → sp vs H Q E) : FnG P w K mg base CX k f fd ps sp' :=
  ⟨fun vs H Q E q => F.len vs H Q E (h vs H Q E q), fun A outer s H args us vs Q E g r e b v q => F.run A outer s H args us vs Q E g r e b v (h vs H Q E q)⟩
theorem FnG.mono {j : Nat} (F : FnG P w K mg base CX k f fd ps sp) (h : k ≤ j) : FnG P w K mg base CX j f fd ps sp :=
  ⟨F.len, fun A outer s H args us vs Q E g r e b v q => F.run A outer s H args us vs Q E g (r.mono h) e b v q⟩
/-- by the body -/
theorem okG {x qual : Str} {params : Arguments} {body : List Stmt} {scope : Scope} {dvs : List V} {kws : List (Str × V)} (F : FunD K x qual params body scope dvs kws f fd) (S : FnScope N ps scope) (len : ∀ vs H Q E, sp vs H Q E → vs.length = ps.length)
    (hbody : ∀ (cdv : Value) (A : Around) (outer : List PySem.Env) (s : Shared) (H : Hp) (vs : List V) (Q : VK) (E : XK), A.guards = some [] → Room k (A.deeper (envOfC qual scope s.heap.objs.size f cdv)) → sp vs H Q E →
      ∃ t, PSs (cxOf CX P w K mg base N qual scope f cdv A outer s H E) body t ∧ t { nx := fun _ H' => Q .non H', rt := Q } (start N vs) H) : FnG P w K mg base CX (k + 1) f fd ps sp := by
  obtain ⟨oc, od, dV, kV, doc, pm, an, cdv, ct, osl, rfl, lk, hcd, _, _⟩ := F.ex
  refine ⟨len, ?_⟩
  intro A outer s H args us vs Q E hg hr e0 hb rv hsp
  have hl := len vs H Q E hsp
  have up : ∀ b o, base.get? b = some o → s.heap.get? b = some o := fun b o e => (e0.bs b o e).1
  have KX : K.In s.heap := e0.mod.kin.keeps up
  have lim : s.heap.NoLimit := e0.mod.nolimit.keeps up
  refine codeAny_call_function hr.depth (KX _ _ lk) rfl S.co S.gen rfl (PySem.W.codeRec_of KX hcd) (hb _ _ _ _ ?_)
  refine wpAny_newFunctionEnv_cells S.kind (fun y hy => ?_) fun env he s1 x1 => ?_
  · obtain ⟨n, v⟩ := y
    have hn := (List.of_mem_zip hy).1
    rcases S.par n hn with q | q
    · exact .inl q
    · exact .inr ⟨q, PySem.W.cellsFrom_some _ _ _ (.inl q)⟩
  · subst he
    refine ⟨lim.keeps x1.toInCall.keep, codeAny_func ?_⟩
    obtain ⟨t, ht, hq⟩ := hbody cdv A outer s H vs Q E hg (hr.deeper _) hsp
    have I := inv_start (CX := CX) (E := E) S hr.hd e0 hl rv x1
    refine wpAny_mono (ht.run [] s1 (start N vs) H _ I hq) (fun fl s' hs => ?_) fun e s' hs => hs
    cases fl with
    | ret u =>
      obtain ⟨v, σ', H', J, r, q⟩ := hs
      exact ⟨v, H', J.os, J.bare, J.base, J.hok, r, q⟩
    | next =>
      obtain ⟨σ', H', J, q⟩ := hs
      exact ⟨.non, H', J.os, J.bare, J.base, J.hok, (rfl : Value.none = Value.none), q⟩
    | brk =>
      obtain ⟨_, _, _, q⟩ := hs
      exact q.elim
    | cont =>
      obtain ⟨_, _, _, q⟩ := hs
      exact q.elim
end
/-- the heap in which the script alone is told -/
def scrH (a : Addr) (vs : List Value) (ns : List Int) : Hp := fun b => if b = a then some (.frz { cls := .type "list", data := .seq vs.toArray } (.lst (ns.map V.int))) else none
section
variable {P : Program} {w : World} {K : PySem.W.Frag} {mg mb : Str → Option Value} {CX : CXT} {k : Nat} {fa a : Addr} {fd : FuncData} {x : Str} {sp : Sp} {s₁ : Shared} {vs : List Value} {ns : List Int} {H : Hp}
/-- the call from an abstract heap that tells of the script alone -/
theorem call_from (KX : K.In s₁.heap) (hns : s₁.heap.Ns mainGlobals mg) (hb : s₁.heap.Ns builtinsNs mb) (hbb : ∀ x : Str, x ≠ "__name__" → mb x = bootBuiltins x) (hlim : s₁.heap.NoLimit) (hg : s₁.gens = #[])
    (ha : s₁.heap.get? a = some { cls := .type "list", data := .seq vs.toArray }) (hr : Room k callerA) (F : ∀ base : Heap, K.In base → base.Ns mainGlobals mg → FnG P w K mg base CX k fa fd [x] sp) (hbind : ∀ (s : Shared) (u : Value), BindsTo s fd ⟨[u], []⟩ [(x, u)])
    (hsp : sp [.ref a] H (fun v _ => v = .bl true) fun _ _ _ => False) (hCX : ∀ H e s', CX [] H s₁ (fun _ _ _ => False) e s' → False) (hO : Only H) (ok : HOk P w H s₁.heap) (hA : ∀ b, H b ≠ none → b = a) (hK : H a ≠ none → K.lookup a = none) :
    codeAny (model P w) callerA (.call (.ref fa) ⟨[.ref a], []⟩) (fun r s' => r = .ok (.ret (.bool true)) ∧ OldK s₁.heap s'.heap ∧ s'.os = s₁.os ∧ AllBare s'.gens) s₁ := by
  have off : ∀ {b : Addr} {o : Obj}, s₁.heap.get? b = some o → b ≠ a ∨ H a = none → (hidT s₁.heap H).get? b = some o := fun {b o} e c => hidT_get e (by
    cases q : H b with
    | none => rfl
    | some u =>
      have z := hA b (by rw [q]; simp)
      rcases c with c | c
      · exact absurd z c
      · rw [z] at q; rw [q] at c; cases c)
  have notD : ∀ {b : Addr} {o : Obj} {es : Array DictEntry} {ep : Nat}, s₁.heap.get? b = some o → o.data = .dict es ep → b ≠ a := fun {b o es ep} e d z => by
    rw [z, ha] at e
    cases e
    exact nomatch d
  have ns' : ∀ {b : Addr} {m : Str → Option Value}, s₁.heap.Ns b m → (hidT s₁.heap H).Ns b m := fun {b m} ⟨o, es, ep, e, d, r⟩ => ⟨o, es, ep, off e (.inl (notD e d)), d, r⟩
  have kin : K.In (hidT s₁.heap H) := fun b o e => off (KX b o e) (by
    by_cases z : b = a
    · refine .inr ?_
      cases q : H a with
      | none => rfl
      | some u =>
        have := hK (by rw [q]; simp)
        rw [z, this] at e
        cases e
    · exact .inl z)
  have md : Mod K mg (hidT s₁.heap H) := ⟨kin, ns' hns, ⟨mb, ns' hb, hbb⟩, by
    obtain ⟨mc, h1, h2⟩ := hlim
    exact ⟨mc, ns' h1, h2⟩⟩
  have e0 : Env0 P w K mg (hidT s₁.heap H) callerA [] s₁ H := ⟨rfl, md, fun b o e => of_hidT e, Nat.le_of_eq (hidT_size _ _), trivial, (fun b hb => by cases hb), ok, .of_eq hg⟩
  have run := (F _ kin (ns' hns)).run callerA [] s₁ H ⟨[.ref a], []⟩ [.ref a] [.ref a] _ _ rfl hr e0 (hbind s₁ (.ref a)) (.cons rfl .nil) hsp
  refine codeAny_mono run fun r s' h => ?_
  rcases r with e | fl
  · exact (hCX H e s' h).elim
  · cases fl with
    | next => exact False.elim h
    | brk => exact False.elim h
    | cont => exact False.elim h
    | ret u =>
      obtain ⟨v, H', os, bare, un, ok', r', q⟩ := h
      have q' : v = .bl true := q
      subst q'
      cases (show u = Value.bool true from r')
      refine ⟨rfl, OldK.of_keep fun b o e => ?_, os, bare⟩
      cases q2 : H b with
      | none => exact un.keep b o e q2 (by intro z; cases z) (by simp)
      | some u =>
        rcases hO b with z | ⟨ob, xs, z⟩
        · rw [q2] at z; cases z
        · have z2 := un.frzs b ob _ z
          have e1 := (ok b _ z).1
          have e2 := (ok' b _ z2).1
          rw [e] at e1
          cases e1
          exact e2
theorem law_callG (KX : K.In s₁.heap) (hns : s₁.heap.Ns mainGlobals mg) (hb : s₁.heap.Ns builtinsNs mb) (hbb : ∀ x : Str, x ≠ "__name__" → mb x = bootBuiltins x) (hlim : s₁.heap.NoLimit) (hg : s₁.gens = #[])
    (ha : s₁.heap.get? a = some { cls := .type "list", data := .seq vs.toArray }) (hi : IntsAre vs ns) (hl : ns.length ≤ sizeLine) (hr : Room k callerA) (F : ∀ base : Heap, K.In base → base.Ns mainGlobals mg → FnG P w K mg base CX k fa fd [x] sp) (hbind : ∀ (s : Shared) (u : Value), BindsTo s fd ⟨[u], []⟩ [(x, u)])
    (hsp : ∀ H : Hp, Only H → SqL K H a (ns.map V.int) → sp [.ref a] H (fun v _ => v = .bl true) fun _ _ _ => False) (hCX : ∀ H e s', CX [] H s₁ (fun _ _ _ => False) e s' → False) :
    codeAny (model P w) callerA (.call (.ref fa) ⟨[.ref a], []⟩) (fun r s' => r = .ok (.ret (.bool true)) ∧ OldK s₁.heap s'.heap ∧ s'.os = s₁.os ∧ AllBare s'.gens) s₁ := by
  have rv := vals_ints hi
  have lv := hi.length
  cases hk : K.lookup a with
  | some o =>
    have e := KX a o hk
    rw [ha] at e
    cases e
    have hO : Only fun _ => none := fun b => .inl rfl
    refine call_from (H := fun _ => none) KX hns hb hbb hlim hg ha hr F hbind (hsp _ hO (.inr ⟨_, vs.toArray, _, hk, rfl, rfl, rfl, by rw [List.size_toArray, lv]; exact hl, by simpa using rv⟩)) hCX hO (fun b u z => by cases z) (fun b z => absurd rfl z) fun z => absurd rfl z
  | none =>
    have at' : scrH a vs ns a = some (.frz { cls := .type "list", data := .seq vs.toArray } (.lst (ns.map V.int))) := if_pos rfl
    have hO : Only (scrH a vs ns) := fun b => by
      by_cases z : b = a
      · exact .inr ⟨_, _, if_pos z⟩
      · exact .inl (if_neg z)
    refine call_from (H := scrH a vs ns) KX hns hb hbb hlim hg ha hr F hbind (hsp _ hO (.inl (.inr ⟨_, at'⟩))) hCX hO (fun b u z => ?_) (fun b z => ?_) fun _ => hk
    · by_cases q : b = a
      · subst q
        rw [at'] at z
        cases z
        exact ⟨ha, by rw [List.length_map]; exact hl, vs, _, rv, ha⟩
      · have : scrH a vs ns b = none := if_neg q
        rw [this] at z
        cases z
    · apply Classical.byContradiction
      intro q
      exact z (if_neg q)
end
/-- a law whose own def is called where nothing is guarded -/
theorem walk_ofG {l : PySem.W.OpenLaw} {n k : Nat} {q : Program} {loose : List Str} {XP : (Str → Option Value) → Heap → Prop} {YP : World → Heap → Prop} {d : DefRec} {CX : CXT} {x : Str} (hn : l.most = some n) (hn2 : n ≤ sizeLine) (hdf : d.params.defaults = []) (hr : Room k callerA)
    (F : ∀ (w : World) (mg : Str → Option Value) (fa : Addr) (h : Heap), YP w h → h.Ns mainGlobals mg → mg d.name = some (.ref fa) →
      ∃ (K : PySem.W.Frag) (fd : FuncData) (sp : Sp), K.In h ∧ (∀ (s : Shared) (u : Value), BindsTo s fd ⟨[u], []⟩ [(x, u)]) ∧ (∀ (H : Hp) (a : Addr) (ns : List Int), ns.length ≤ n → Only H → SqL K H a (ns.map V.int) → sp [.ref a] H (fun v _ => v = .bl true) fun _ _ _ => False) ∧
        ∀ base : Heap, K.In base → base.Ns mainGlobals mg → FnG l.prog w K mg base CX k fa fd [x] sp)
    (hCX : ∀ (H : Hp) (s : Shared) (e : Value) (s' : Shared), CX [] H s (fun _ _ _ => False) e s' → False) : PySem.W.WalkO q loose XP YP l.row.toRowW d [] (fun f vs => PySem.call f vs) := by
  refine Att.attach_call hn hdf fun w s₀ s₁ mg mb fa o pm cd doc a vs ns G Y ho hd hcd hmg hobj hints hlen hg => ?_
  obtain ⟨K, fd, sp, KX, hb, hsp, hF⟩ := F w mg fa s₁.heap Y G.T.g hmg
  exact law_callG KX G.T.g G.T.b G.T.builtins G.T.nolimit hg hobj hints (Nat.le_trans hlen hn2) hr hF hb (fun H hO hS => hsp H a ns hlen hO hS) fun H e s' => hCX H s₁ e s'
end Ol
set_option Elab.async false
set_option linter.all false
set_option maxRecDepth 100000
set_option maxHeartbeats 4000000
/-! own: repr of data where nothing is guarded -/
namespace Ol
open PySem PySem.Spec PyProof.Rows L2
def okShow (d : D) : Bool := (match d with | .list _ => true | .tuple _ => true | _ => false) && d.showable && !d.hasDict && decide (d.depth ≤ 40) && decide (d.shown.length ≤ 100000)
def rRepr (K : PySem.W.Frag) : List V → Hp → VK → Prop := fun xs H Q => ∃ v d, xs = [v] ∧ L2.Dp K H v d ∧ okShow d = true ∧ Q (.str d.shown) H
theorem cr_repr {X : Cx} (hg : X.A.guards = some []) (hu : X.A.units + 64 < cLine) : CallR X (.builtin "repr") (rRepr X.K) := by
  intro pins s σ H xs us Q I r h
  obtain ⟨v, d, rfl, hd, ok, q⟩ := h
  obtain ⟨u, rfl, rx⟩ := vals1 r
  unfold okShow at ok
  simp only [Bool.and_eq_true, Bool.not_eq_true', decide_eq_true_eq] at ok
  obtain ⟨⟨⟨⟨o1, o2⟩, o3⟩, o4⟩, o5⟩ := ok
  obtain ⟨as, rd⟩ := Dp.reads I d v u hd rx
  have fin : ∀ h' t tk, (∀ b o, s.heap.get? b = some o → h'.get? b = some o) → EP X pins σ Q (.str d.shown t) { s with heap := h', toks := tk } := fun h' t tk kp => ⟨.str d.shown, H, I.kept (t' := tk) kp, ⟨t, rfl⟩, q⟩
  have hz : d.shown.length ≤ sizeLine := Nat.le_trans o5 (by decide)
  cases d with
  | list ds =>
    cases rd with
    | list h1 h2 h3 h4 => exact repr_of_reads' (h₀ := s.heap) (.list h1 h2 h3 h4) o2 (fun z => by rw [o3] at z; cases z) hg (by omega) (fun _ _ e => e) fin hz
  | tuple ds =>
    cases rd with
    | tuple h1 h2 h3 h4 => exact repr_of_reads' (h₀ := s.heap) (.tuple h1 h2 h3 h4) o2 (fun z => by rw [o3] at z; cases z) hg (by omega) (fun _ _ e => e) fin hz
  | _ => cases o1
def oRepr : List RV → Option PV
  | [.d x] => if okShow x = true then some (.d (.str x.shown)) else none
  | _ => none
theorem s_repr {Z : Zn} : OpN Z (rRepr Z.K) oRepr := by
  intro Hb H vs rs pv e rr h Q q
  unfold oRepr at h
  split at h
  · split at h
    · rename_i x ok
      cases h
      obtain ⟨v, rfl, r⟩ := rdrs1 rr
      exact ⟨v, x, rfl, (r.dp e).toL, ok, q _ _ _ (.refl e) (.d (.str _))⟩
    · cases h
  · cases h
/-- == of texts -/
def oEqS : RV → RV → Option PV
  | .d (.str a), .d (.str b) => some (bD (a == b))
  | _, _ => none
def oNeS : RV → RV → Option PV
  | .d (.str a), .d (.str b) => some (bD (!(a == b)))
  | _, _ => none
theorem dec_strV {a b : Str} : decide (V.str a = V.str b) = (a == b) := by
  rw [Bool.eq_iff_iff]
  simp
theorem s_eqS {Z : Zn} : Op2 Z rEq oEqS := by
  intro Hb H x y dx dy pv e rx ry h Q q
  unfold oEqS at h
  split at h
  · cases h
    cases rx
    cases ry
    refine ⟨rfl, ?_⟩
    rw [dec_strV]
    exact q _ _ _ (.refl e) (vrB _)
  · cases h
theorem s_neS {Z : Zn} : Op2 Z rNe oNeS := by
  intro Hb H x y dx dy pv e rx ry h Q q
  unfold oNeS at h
  split at h
  · cases h
    cases rx
    cases ry
    refine ⟨rfl, ?_⟩
    rw [dec_strV]
    exact q _ _ _ (.refl e) (vrB _)
  · cases h
theorem fnG_law {P : Program} {w : World} {K : Fg} {mg : Str → Option Value} {base : Heap} {k : Nat} {f : Addr} {fd : FuncData} {ps : List Str} {F : Fn} {sp : Sp} (h : FnG P w K mg base L2.CX0 k f fd ps (spI ⟨K, P, w⟩ F))
    (hs : ∀ vs H Q E, sp vs H Q E → ∃ (a : Addr) (ns : List Int), vs = [.ref a] ∧ SqL K H a (ns.map V.int) ∧ F [.d (.list (ns.map .int))] = some (.d (.bool true), [none]) ∧ ∀ H', Q (.bl true) H') : FnG P w K mg base L2.CX0 k f fd ps sp := h.imp (law_go hs)
end Ol
set_option Elab.async false
set_option linter.all false
set_option maxRecDepth 100000
set_option maxHeartbeats 4000000
/-! own: sorted of texts, a tuple or a list -/
namespace Ol
open PySem PySem.Spec PySem.Calls PyProof.Rows L2
section
variable {prog : Program} {w : World} {A : Around} {E : Value → Shared → Prop} {s : Shared}
abbrev oneMore (h : Heap) (vs : List Value) : Heap := (h.push (seqObj "list" #[] 0)).update h.objs.size (Obj.mapSeq (· ++ vs.toArray))
theorem coll_tup {l : Addr} {vs : List Value} {Q : List Value → Shared → Prop} (hl : IsTup s.heap l vs.toArray) (hz : vs.length ≤ sizeLine) (q : Q vs { s with heap := oneMore s.heap vs }) : wpAny (model prog w) A (collect (.ref l)) Q E s := by
  obtain ⟨o, ho, hc, n, hd⟩ := id hl
  have kp : (s.heap.push (seqObj "list" #[] 0)).get? l = some o := Heap.get?_push_of_some _ ho
  have nw : (s.heap.push (seqObj "list" #[] 0)).get? s.heap.objs.size = some (seqObj "list" #[] 0) := Heap.get?_push_size _ rfl
  unfold collect
  apply wpAny_bind
  apply wpAny_runValue
  refine codeAny_builtin entry_proto_collect' ?_
  show wpAny _ _ (do again (.builtin "list.__iadd__" ⟨[← newList [], .ref l], []⟩)) _ _ s
  apply wpAny_bind
  refine wpAny_newList ?_
  refine wpAny_pure ⟨Code.quiet_builtin _ (by decide +kernel), codeAny_builtin entry_list_iadd' ?_⟩
  show wpAny _ _ (Builtin.List.listExtendWith (.ref _) (.ref l) (.ref _)) _ _ { s with heap := s.heap.push (seqObj "list" #[] 0) }
  unfold Builtin.List.listExtendWith
  apply wpAny_bind
  refine wpAny_typeOf (T := "tuple") ⟨o, kp, hc⟩ ?_
  rw [if_pos (by simp)]
  apply wpAny_bind
  refine listItems_at kp hd ?_
  apply wpAny_bind
  refine listItems_at (xs := #[]) (n := 0) nw rfl ?_
  rw [if_neg (by simp)]
  apply wpAny_bind
  refine listUpdate_at (xs := #[]) (n := 0) nw rfl ?_ (Nat.zero_le _) ?_
  · apply wpAny_pure
    show wpAny (model prog w) A (do
        let o ← load s.heap.objs.size
        match o.data with
        | .seq xs _ => pure xs.toList
        | _ => unsupported "internal:collect") Q E { s with heap := oneMore s.heap vs }
    apply wpAny_bind
    refine wpAny_load (get?_update_seq nw _) ?_
    have e : ((#[] : Array Value) ++ vs.toArray).toList = vs := by simp
    show wpAny _ _ (pure ((#[] : Array Value) ++ vs.toArray).toList) Q E _
    rw [e]
    exact wpAny_pure q
  · show (#[] ++ vs.toArray).size ≤ sizeLine + 1
    simp only [Array.size_append, List.size_toArray, List.length_nil]
    omega
theorem sorted_tupS {l : Addr} {vs : List Value} {ss : List Str} {Q : Value → Shared → Prop} (hl : IsTup s.heap l vs.toArray) (hS : StrsAre vs ss) (hL : vs.length ≤ sizeLine)
    (h : ∀ (out : Array Value) (ss' : List Str), StrsAre out.toList ss' → ss'.Perm ss → sortedS ss' = true → Q (.ref (s.heap.objs.size + 1)) { s with heap := sortedAll s.heap vs out }) : wpAny (model prog w) A (call (.builtin "sorted") [.ref l]) Q E s := by
  have size : (oneMore s.heap vs).objs.size = s.heap.objs.size + 1 := by rw [Heap.size_update, size_push']
  have there : ((oneMore s.heap vs).push (seqObj "list" vs.toArray 0)).get? (s.heap.objs.size + 1) = some (seqObj "list" vs.toArray 0) := by
    rw [← size]
    exact Heap.get?_push_size _ rfl
  refine Calls.call_function_entry kind_sorted plain_sorted entry_sorted (args_sorted1 _) ?_
  unfold Builtin.«sorted»
  apply wpAny_bind (m := checkCount "sorted" 1 1 _)
  refine wpAny_pure ?_
  apply wpAny_bind
  refine coll_tup hl hL ?_
  apply wpAny_bind
  refine wpAny_newList ?_
  show wpAny _ _ _ _ _ { s with heap := (oneMore s.heap vs).push (seqObj "list" vs.toArray 0) }
  rw [size]
  apply wpAny_bind
  apply wpAny_holding
  refine wpAny_call_entry slot_list_sort ⟨_, there, rfl⟩ entry_list_sort ?_ (args_list_sort _)
  refine list_sort_treeKAny strKind_oneLt there hS.keysOf (fun v₁ v₂ rest e => keyKind_strs (by rw [← e]; exact hS)) hL fun st' hp hs => ⟨_, rfl, ?_⟩
  obtain ⟨ss', h1, h2, h3⟩ := sorted_out_str hS hp hs
  exact wpAny_pure ⟨_, rfl, h _ ss' h1 h2 h3⟩
end
section
variable {X : Cx}
/-- sorted(xs) of texts -/
def rSortT (K : PySem.W.Frag) : List V → Hp → VK → Prop := fun vs H Q => ∃ (a : Addr) (xs : List Str), vs = [V.ref a] ∧ (SqL K H a (xs.map V.str) ∨ SqT K H a (xs.map V.str)) ∧
  ∀ (ys : List Str) (p : Addr), ys.Perm xs → sortedS ys = true → H p = none → Q (.ref p) (upd H p (.lst (ys.map V.str)))
theorem cr_sortT : CallR X (.builtin "sorted") (rSortT X.K) := by
  intro pins s σ H vs us Q I r h
  obtain ⟨a, xs, rfl, hs, q⟩ := h
  rw [Vals.ref1 r]
  have fin : ∀ (its : List Value) (out : Array Value) (ys : List Str), xs.length ≤ sizeLine → StrsAre out.toList ys → ys.Perm xs → sortedS ys = true → EP X pins σ Q (.ref (s.heap.objs.size + 1)) { s with heap := sortedAll s.heap its out } := fun its out ys hz k1 k2 k3 => by
    obtain ⟨ep, at'⟩ := sortedAll_at s.heap its out
    have len : (ys.map V.str).length ≤ sizeLine := by
      rw [List.length_map, k2.length_eq]
      exact hz
    exact ⟨.ref _, upd H (s.heap.objs.size + 1) (.lst (ys.map V.str)), I.laid (t' := s.toks) (fun _ _ => sortedAll_old) (Nat.le_succ _) ⟨len, out.toList, ep, vals_of_strs k1, at'⟩, rfl, q ys _ k2 k3 (I.hok.fresh (Nat.le_succ _))⟩
  rcases hs with hs | hs
  · obtain ⟨its, rv, hl, hz⟩ := I.list hs
    have n := rv.length
    rw [List.length_map] at n hz
    exact sorted_strsAny hl.isList rv.strs (by omega) fun out ys k1 k2 k3 => fin its out ys hz k1 k2 k3
  · obtain ⟨its, rv, hl, hz⟩ := I.tuple hs
    have n := rv.length
    rw [List.length_map] at n hz
    exact sorted_tupS hl rv.strs (by omega) fun out ys k1 k2 k3 => fin its out ys hz k1 k2 k3
end
/-- sorted(xs), texts -/
def oSortS : List RV → Option PV
  | [.d (.list ds)] => (strsOf ds).bind fun zs => some (.new (.lst ((sortS zs).map .str)))
  | [.d (.tuple ds)] => (strsOf ds).bind fun zs => some (.new (.lst ((sortS zs).map .str)))
  | _ => none
theorem s_sortS {Z : Zn} : OpN Z (rSortT Z.K) oSortS := by
  intro Hb H vs rs pv e rr h Q q
  have main : ∀ (a : Addr) (zs : List Str), vs = [.ref a] → (SqL Z.K H a (zs.map V.str) ∨ SqT Z.K H a (zs.map V.str)) → pv = PV.new (Ob.lst ((sortS zs).map PyData.str)) → rSortT Z.K vs H Q := fun a zs ev hs ep => by
    subst ev ep
    refine ⟨a, zs, rfl, hs, fun ys p hp hr hn => ?_⟩
    have ey := sortS_of hp hr
    subst ey
    exact q _ _ _ (Nx.newOwn e hn) (.new hn (e.free hn) (.lst upd_same (DpAll.strs _)))
  unfold oSortS at h
  split at h
  · obtain ⟨v, rfl, r⟩ := rdrs1 rr
    cases r with
    | lst s t =>
      simp only [Option.bind_eq_some_iff] at h
      obtain ⟨zs, h1, h2⟩ := h
      cases h2
      have hd := strsOf_eq h1
      subst hd
      have hv := DpAll.strs_inv t
      subst hv
      exact main _ zs rfl (.inl s) rfl
  · obtain ⟨v, rfl, r⟩ := rdrs1 rr
    cases r with
    | tup s t _ =>
      simp only [Option.bind_eq_some_iff] at h
      obtain ⟨zs, h1, h2⟩ := h
      cases h2
      have hd := strsOf_eq h1
      subst hd
      have hv := DpAll.strs_inv t
      subst hv
      exact main _ zs rfl (.inr (sqt_ex e s)) rfl
  · cases h
end Ol
set_option Elab.async false
set_option linter.all false
set_option maxRecDepth 100000
set_option maxHeartbeats 4000000
namespace Ol
open PySem PySem.Spec PyProof.Rows L2
def top (i : Nat) : Stmt := PySem.Challenge.pw_openlane_k06_sets_by_all_histories.main.body.getD i (.Pass ⟨0, 0, 0, 0⟩)
def dd (n : Str) (i : Nat) : He.DefD := ⟨(n, none), n, n, defArgs (top i), defBody (top i), defScope (top i), [], []⟩
def fn : List He.DefD := [dd "is_car" 11, dd "is_lane" 12, dd "is_arrival" 13, dd "is_departure" 14, dd "check_lane" 15, dd "is_log_for" 16, dd "check_log" 17, dd "count_sizes" 18, dd "car_numbers" 19, dd "check_cars" 21, dd "check_all" 22, dd "count_departures" 23, dd "arriving_positions" 24, dd "first_shortage" 25, dd "set_reason" 26, dd "can_stay" 27, dd "why_cannot_stay" 28, dd "_law_cell_at" 30, dd "_law_bag" 31, dd "_law_take" 32, dd "_law_names" 33, dd "_law_built" 34, dd "_law_step" 35, dd "_law_few" 36, dd "_law_folk" 37, dd "_law_set" 38, dd "_law_truth" 39, dd "law" 40]
def fa : List He.Fa := [.glo "is_car", .glo "is_lane", .glo "is_arrival", .glo "is_departure", .glo "check_lane", .glo "is_log_for", .glo "check_log", .glo "count_sizes", .glo "car_numbers", .glo "check_cars", .glo "check_all", .glo "count_departures", .glo "arriving_positions", .glo "first_shortage", .glo "set_reason", .glo "can_stay", .glo "why_cannot_stay", .glo "_law_cell_at", .glo "_law_bag", .glo "_law_take", .glo "_law_names", .glo "_law_built", .glo "_law_step", .glo "_law_few", .glo "_law_folk", .glo "_law_set", .glo "_law_truth", .glo "law", .free "len", .free "int", .free "abs", .free "max", .free "min", .free "list", .free "tuple", .free "set", .free "all", .free "any", .free "sum", .free "sorted", .free "isinstance", .free "range", .free "enumerate", .free "zip", .free "str", .free "bool", .free "dict", .free "repr", .str "LETTERS" "abcdefghijklmnopqrstuvwxyz", .int "MAX_LETTERS" 4, .str "IN" "in", .str "OUT" "out"]
def loose : List Str := (["LaneError", "InvalidLane", "InvalidLog", "InvalidCars", "UnknownCar", "LETTERS", "MAX_LETTERS", "IN", "OUT", "is_car", "is_lane", "is_arrival", "is_departure", "check_lane", "is_log_for", "check_log", "count_sizes", "car_numbers", "check_cars", "check_all", "count_departures", "arriving_positions", "first_shortage", "set_reason", "can_stay", "why_cannot_stay", "_law_cell_at", "_law_bag", "_law_take", "_law_names"] : List Str) ++ (["_law_built", "_law_step", "_law_few", "_law_folk", "_law_set", "_law_truth"] : List Str)
abbrev R : PySem.W.OpenRow := PySem.W.OpenLaw.row PySem.Challenge.rw_openlane_k06_sets_by_all_histories
abbrev hk : PySem.W.Hook := He.hookD 4 fa fn
def ob (s : PySem.W.SharedT) : He.AlD := He.obsDG 4 fa fn (HandSHeadRun.getT s)
theorem ob_eq (s : PySem.W.SharedT) : ob s = hk.obs s.abs := He.obsDG_eq (HandSHeadRun.getT_eq s)
theorem hrun (w : World) : HandSHeadRun.RunEq R (PySem.W.view R.prog [40]) hk ob 8000 loose w := by
  intro os
  kernel_rfl
end Ol
set_option Elab.async false
set_option linter.all false
set_option maxRecDepth 100000
set_option maxHeartbeats 4000000
namespace Ol
open PySem PySem.Spec PyProof.Rows L2 PySem.W PySem.Calls
theorem j06_fin (F : ∀ (w : World) (mg : Str → Option Value) (f : Addr) (h : Heap), (∃ K : PySem.W.Frag, K.In h ∧ He.SaysD fa fn K) → h.Ns mainGlobals mg → mg ("law" : Str) = some (.ref f) →
      ∃ (K : PySem.W.Frag) (fd : FuncData) (sp : Sp), K.In h ∧ (∀ (s : Shared) (u : Value), BindsTo s fd ⟨[u], []⟩ [("script", u)]) ∧
        (∀ (H : Hp) (a : Addr) (ns : List Int), ns.length ≤ 63 → Only H → SqL K H a (ns.map V.int) → sp [.ref a] H (fun v _ => v = .bl true) fun _ _ _ => False) ∧
        ∀ base : Heap, K.In base → base.Ns mainGlobals mg → FnG (PySem.Challenge.rw_openlane_k06_sets_by_all_histories).prog w K mg base L2.CX0 20 f fd ["script"] sp) : PySem.Challenge.rw_openlane_k06_sets_by_all_histories.Holds := by
  w_on; o_law
  refine HandSHeadRun.head_any (r := OpenLaw.row PySem.Challenge.rw_openlane_k06_sets_by_all_histories) (q := view (OpenLaw.row PySem.Challenge.rw_openlane_k06_sets_by_all_histories).prog [40]) (H := Ol.hk) (ob := Ol.ob) (M := 8000) (loose := Ol.loose) (d := HandSHeadRun.topDef (OpenLaw.row PySem.Challenge.rw_openlane_k06_sets_by_all_histories).prog 40) (kwd := []) Ol.ob_eq
    (by kernel_rfl) (fun s => by kernel_rfl) Ol.hrun (by kernel_rfl) (by kernel_rfl) (by kernel_rfl) (by rfl) (by first | assumption | decide +kernel) (by decide +kernel) ⟨rfl, rfl, rfl, rfl, rfl, by decide +kernel⟩ ?hw ?hc
  case hw => w_witness2
  case hc =>
    refine walk_ofG (l := PySem.Challenge.rw_openlane_k06_sets_by_all_histories) (n := 63) (k := 20) (x := "script") (CX := L2.CX0) rfl (by decide) (by kernel_rfl) ⟨rfl, by decide, by decide⟩ ?F (fun _ _ _ _ z => z)
    intro w mg f h Y G hm
    obtain ⟨K, KX, c⟩ := Y
    have e : (HandSHeadRun.topDef (OpenLaw.row PySem.Challenge.rw_openlane_k06_sets_by_all_histories).prog 40).name = ("law" : PySem.Str) := by kernel_rfl
    rw [e] at hm
    exact F w mg f h ⟨K, KX, c⟩ G hm
end Ol
set_option Elab.async false
set_option linter.all false
set_option maxRecDepth 100000
set_option maxHeartbeats 4000000
open PySem PySem.Spec PyProof.Rows L2
namespace Ol
local macro_rules | `(tactic| walk_at "I.S") => `(tactic| repeat' (first
  | ((with_reducible apply cE); (first
    | (with_reducible refine iE_one ?_)
    | ((with_reducible apply gVar); exact iE_var rfl (by first | exact .inl rfl | exact .inr (.inl rfl) | exact .inr (.inr rfl)))
    | ((with_reducible apply gC); (first | exact iE_int | exact iE_str | exact iE_non | exact iE_bl | exact iE_gs rfl (by assumption) | exact iE_gi rfl (by assumption)))
    | ((with_reducible apply cM2); (first
      | ((with_reducible apply gM2 oIx); refine iE_ix ?_ ?_)
      | ((with_reducible apply gM2 oDg); refine iE_dg (Room.units (by assumption)) ?_ ?_)
      | (with_reducible refine iE_add ?_ ?_)
      | (with_reducible refine iE_sub ?_ ?_)
      | (with_reducible refine iE_mul ?_ ?_)
      | (with_reducible refine iE_div ?_ ?_)
      | (with_reducible refine iE_mod ?_ ?_)
      | (with_reducible refine iE_pow ?_ ?_)
      | ((with_reducible apply gM2 oEq); refine iE_cmp (op_eqD (Room.units (by assumption))) s_eq ?_ ?_ (by rfl))
      | ((with_reducible apply gM2 oNe); refine iE_cmp (op_neD (Room.units (by assumption))) s_ne ?_ ?_ (by rfl))
      | ((with_reducible apply gM2 oLt); refine iE_cmp op_lt s_lt ?_ ?_ (by rfl))
      | ((with_reducible apply gM2 oLe); refine iE_cmp op_le s_le ?_ ?_ (by rfl))
      | ((with_reducible apply gM2 oGt); refine iE_cmp op_gt s_gt ?_ ?_ (by rfl))
      | ((with_reducible apply gM2 oGe); refine iE_cmp op_ge s_ge ?_ ?_ (by rfl))
      | ((with_reducible apply gM2 (oIn false)); refine iE_cmp (op_inU (Room.units (by assumption))) (s_in false) ?_ ?_ (by rfl))
      | ((with_reducible apply gM2 (oIn true)); refine iE_cmp (op_notInU (Room.units (by assumption))) (s_in true) ?_ ?_ (by rfl))
      | ((with_reducible apply gM2 oIsN); refine iE_cmp op_isN s_isN ?_ ?_ (by rfl))
      | ((with_reducible apply gM2 oNotN); refine iE_cmp op_notN s_notN ?_ ?_ (by rfl))
      | ((with_reducible apply gM2 oIsB); refine iE_cmp op_isB s_isB ?_ ?_ (by rfl))
      | ((with_reducible apply gM2 oNotB); refine iE_cmp op_notB s_notB ?_ ?_ (by rfl))
      | ((with_reducible apply gM2 (oInT false)); refine iE_cmp (or_inT (room3 (by assumption))) (s_inT false) ?_ ?_ (by rfl))
      | ((with_reducible apply gM2 (oInT true)); refine iE_cmp (or_notInT (room3 (by assumption))) (s_inT true) ?_ ?_ (by rfl))
      | ((with_reducible apply gM2 oEqS); refine iE_cmp op_eq s_eqS ?_ ?_ (by rfl))
      | ((with_reducible apply gM2 oNeS); refine iE_cmp op_ne s_neS ?_ ?_ (by rfl))
      | fail))
    | ((with_reducible apply cB); (first
      | ((with_reducible apply gB oLen); refine iE_B cr_lenU s_len rfl (Gb.len (by assumption)) (by rfl) ?_)
      | ((with_reducible apply gB oAll); refine iE_B (cr_all rfl) s_all rfl (Gb.all (by assumption)) (by rfl) ?_)
      | ((with_reducible apply gB oAny); refine iE_B (cr_any rfl) s_any rfl (Gb.any (by assumption)) (by rfl) ?_)
      | ((with_reducible apply gB oSum); refine iE_B (cr_sum rfl) s_sum rfl (Gb.sum (by assumption)) (by rfl) ?_)
      | ((with_reducible apply gB oMin); refine iE_B (cr_minU rfl (Room.units (by assumption))) s_min rfl (Gb.min (by assumption)) (by rfl) ?_)
      | ((with_reducible apply gB oMax); refine iE_B (cr_maxU rfl (Room.units (by assumption))) s_max rfl (Gb.max (by assumption)) (by rfl) ?_)
      | ((with_reducible apply gB oAbs); refine iE_B call_abs s_abs rfl (Gb.abs (by assumption)) (by rfl) ?_)
      | ((with_reducible apply gB oInt); refine iE_Ty call_int1 s_int rfl (Gb.int (by assumption)) (by rfl) ?_)
      | ((with_reducible apply gB oList); refine iE_Ty call_list_of s_list rfl (Gb.list (by assumption)) (by rfl) ?_)
      | ((with_reducible apply gB oTuple); refine iE_Ty call_tupleN s_tuple rfl (Gb.tuple (by assumption)) (by rfl) ?_)
      | ((with_reducible apply gB oSet); refine iE_Ty (cr_setK rfl) s_set rfl (Gb.set (by assumption)) (by rfl) ?_)
      | ((with_reducible apply gB oListT); refine iE_Ty (call_listDt rfl) s_listT rfl (Gb.list (by assumption)) (by rfl) ?_)
      | ((with_reducible apply gB oDictT); refine iE_Ty (call_dictDt (room4 (by assumption)) rfl) s_dictT rfl (Gb.dict (by assumption)) (by rfl) ?_)
      | ((with_reducible apply gB oRepr); refine iE_B (cr_repr (by assumption) (Room.units (by assumption))) s_repr rfl (Gb.repr (by assumption)) (by rfl) ?_)
      | ((with_reducible apply gB oSortL); refine iE_B cr_sortedI s_sortL rfl (Gb.sorted (by assumption)) (by rfl) ?_)
      | ((with_reducible apply gB oSortS); refine iE_B cr_sortT s_sortS rfl (Gb.sorted (by assumption)) (by rfl) ?_)
      | ((with_reducible apply gB oSet0); exact iE_Ty0 cr_set0K s_set0 rfl (Gb.set (by assumption)) (by rfl))
      | fail))
    | ((with_reducible apply cCh); (first
      | ((with_reducible apply gCh oLe oLe); refine iE_chain op_le s_le op_le s_le ?_ ?_ ?_)
      | ((with_reducible apply gCh oLe oLt); refine iE_chain op_le s_le op_lt s_lt ?_ ?_ ?_)
      | ((with_reducible apply gCh oLt oLe); refine iE_chain op_lt s_lt op_le s_le ?_ ?_ ?_)
      | ((with_reducible apply gCh oLt oLt); refine iE_chain op_lt s_lt op_lt s_lt ?_ ?_ ?_)
      | ((with_reducible apply gCh oLt oGt); refine iE_chain op_lt s_lt op_gt s_gt ?_ ?_ ?_)
      | fail))
    | ((with_reducible apply cMt); (first
      | ((with_reducible apply gMt fAppend); refine iE_append (pe_var rfl (by first | exact .inl rfl | exact .inr (.inl rfl) | exact .inr (.inr rfl))) ?_)
      | ((with_reducible apply gMt fPopAt); refine iE_popAt (pe_var rfl (by first | exact .inl rfl | exact .inr (.inl rfl) | exact .inr (.inr rfl))) ?_)
      | ((with_reducible apply gMt fAdd); refine iE_sadd (pe_var rfl (by first | exact .inl rfl | exact .inr (.inl rfl) | exact .inr (.inr rfl))) ?_)
      | ((with_reducible apply gMt fPop); exact iE_pop (pe_var rfl (by first | exact .inl rfl | exact .inr (.inl rfl) | exact .inr (.inr rfl))))
      | ((with_reducible apply gMt fClear); exact iE_clear (pe_var rfl (by first | exact .inl rfl | exact .inr (.inl rfl) | exact .inr (.inr rfl))))
      | fail))
    | (with_reducible refine iE_neg ?_)
    | (with_reducible refine iE_and ?_ ?_)
    | (with_reducible refine iE_or ?_ ?_)
    | (with_reducible refine iE_not ?_)
    | (with_reducible refine iE_if ?_ ?_ ?_)
    | (with_reducible refine iE_tup ?_)
    | (with_reducible refine iE_lst ?_)
    | (with_reducible refine iE_sl ?_ ?_ ?_)
    | ((with_reducible apply gCall); refine iE_call (by assumption) (by assumption) (by first | decide | omega) rfl ?_)
    | ((with_reducible apply gCallK); refine iE_callK (by assumption) (by assumption) (by decide) (by decide) (by repeat' first | exact mNil_len | refine mCons_len ?_) rfl ?_)
    | ((with_reducible apply gNewT); exact iE_newT)
    | ((with_reducible apply gIsi); refine iE_isi rfl (Gb.isi (by assumption)) ?_ rfl (by first | exact Gb.str (by assumption) | exact Gb.int (by assumption) | exact Gb.bool (by assumption) | exact Gb.list (by assumption) | exact Gb.tuple (by assumption) | exact Gb.dict (by assumption)) (by rfl))
    | ((with_reducible apply gIsi2); refine iE_isi2 rfl (Gb.isi (by assumption)) ?_ rfl (by first | exact Gb.str (by assumption) | exact Gb.int (by assumption) | exact Gb.bool (by assumption) | exact Gb.list (by assumption) | exact Gb.tuple (by assumption) | exact Gb.dict (by assumption)) (by rfl) rfl (by first | exact Gb.str (by assumption) | exact Gb.int (by assumption) | exact Gb.bool (by assumption) | exact Gb.list (by assumption) | exact Gb.tuple (by assumption) | exact Gb.dict (by assumption)) (by rfl))
    | ((with_reducible apply gSS); refine iE_sortedSet rfl rfl (Gb.sorted (by assumption)) rfl (Gb.set (by assumption)) ?_)
    | ((with_reducible apply gLc); refine iE_lc rfl (by assumption) ?_ (blkOk_by (by kernel_rfl)) (fun _ _ _ _ _ => (by first | exact iG_name (by assumption) rfl (by first | exact .inl rfl | exact .inr rfl) | exact iG_pair rfl (by assumption) rfl (by first | exact .inl rfl | exact .inr rfl) (iG_pair rfl (by assumption) rfl (by first | exact .inl rfl | exact .inr rfl) (by refine iG_tup rfl ?_; repeat' first | exact iGs_nil | refine iGs_cons (by assumption) rfl (by first | exact .inl rfl | exact .inr rfl) ?_)) | (refine iG_tup rfl ?_; repeat' first | exact iGs_nil | refine iGs_cons (by assumption) rfl (by first | exact .inl rfl | exact .inr rfl) ?_))) ?_ ?_ (by decide))
    | ((with_reducible apply gLc2); refine iE_lc2 rfl (by assumption) ?_ (blkOk_by (by kernel_rfl)) (fun _ _ _ _ _ => (by first | exact iG_name (by assumption) rfl (by first | exact .inl rfl | exact .inr rfl) | exact iG_pair rfl (by assumption) rfl (by first | exact .inl rfl | exact .inr rfl) (iG_pair rfl (by assumption) rfl (by first | exact .inl rfl | exact .inr rfl) (by refine iG_tup rfl ?_; repeat' first | exact iGs_nil | refine iGs_cons (by assumption) rfl (by first | exact .inl rfl | exact .inr rfl) ?_)) | (refine iG_tup rfl ?_; repeat' first | exact iGs_nil | refine iGs_cons (by assumption) rfl (by first | exact .inl rfl | exact .inr rfl) ?_))) ?_ ?_ (fun _ _ _ _ _ => (by first | exact iG_name (by assumption) rfl (by first | exact .inl rfl | exact .inr rfl) | exact iG_pair rfl (by assumption) rfl (by first | exact .inl rfl | exact .inr rfl) (iG_pair rfl (by assumption) rfl (by first | exact .inl rfl | exact .inr rfl) (by refine iG_tup rfl ?_; repeat' first | exact iGs_nil | refine iGs_cons (by assumption) rfl (by first | exact .inl rfl | exact .inr rfl) ?_)) | (refine iG_tup rfl ?_; repeat' first | exact iGs_nil | refine iGs_cons (by assumption) rfl (by first | exact .inl rfl | exact .inr rfl) ?_))) ?_ ?_ (by decide) (by decide) (by decide))
    | ((with_reducible apply gDc); refine iE_dc rfl (by assumption) ?_ (blkOk_by (by kernel_rfl)) (fun _ _ _ _ _ => (by first | exact iG_name (by assumption) rfl (by first | exact .inl rfl | exact .inr rfl) | exact iG_pair rfl (by assumption) rfl (by first | exact .inl rfl | exact .inr rfl) (iG_pair rfl (by assumption) rfl (by first | exact .inl rfl | exact .inr rfl) (by refine iG_tup rfl ?_; repeat' first | exact iGs_nil | refine iGs_cons (by assumption) rfl (by first | exact .inl rfl | exact .inr rfl) ?_)) | (refine iG_tup rfl ?_; repeat' first | exact iGs_nil | refine iGs_cons (by assumption) rfl (by first | exact .inl rfl | exact .inr rfl) ?_))) ?_ ?_ ?_ (by decide))
    | ((with_reducible apply gM1 oRev); refine iE_rev ?_)
    | ((with_reducible apply gM1 oRevT); refine iE_revT ?_)
    | ((with_reducible apply gIdx); refine iE_idx ?_ ?_)
    | ((with_reducible apply gIdxL); refine iE_idxL ?_ ?_)
    | ((with_reducible apply gLR); refine iE_listR rfl rfl (Gb.list (by assumption)) rfl (Gb.range (by assumption)) ?_)
    | ((with_reducible apply gSSI); refine iE_sortedSetI rfl rfl (Gb.sorted (by assumption)) rfl (Gb.set (by assumption)) ?_)
    | fail))
  | ((with_reducible apply cA); (first
    | ((with_reducible apply gA); refine iA_cons ?_ ?_)
    | (with_reducible exact iA_nil)
    | fail))
  | ((with_reducible apply cT); (first
    | ((with_reducible apply cT2); (first
      | ((with_reducible apply gT2 oEq); refine iT_cmp (op_eqD (Room.units (by assumption))) s_eq ?_ ?_ (by rfl))
      | ((with_reducible apply gT2 oNe); refine iT_cmp (op_neD (Room.units (by assumption))) s_ne ?_ ?_ (by rfl))
      | ((with_reducible apply gT2 oLt); refine iT_cmp op_lt s_lt ?_ ?_ (by rfl))
      | ((with_reducible apply gT2 oLe); refine iT_cmp op_le s_le ?_ ?_ (by rfl))
      | ((with_reducible apply gT2 oGt); refine iT_cmp op_gt s_gt ?_ ?_ (by rfl))
      | ((with_reducible apply gT2 oGe); refine iT_cmp op_ge s_ge ?_ ?_ (by rfl))
      | ((with_reducible apply gT2 (oIn false)); refine iT_cmp (op_inU (Room.units (by assumption))) (s_in false) ?_ ?_ (by rfl))
      | ((with_reducible apply gT2 (oIn true)); refine iT_cmp (op_notInU (Room.units (by assumption))) (s_in true) ?_ ?_ (by rfl))
      | ((with_reducible apply gT2 oIsN); refine iT_cmp op_isN s_isN ?_ ?_ (by rfl))
      | ((with_reducible apply gT2 oNotN); refine iT_cmp op_notN s_notN ?_ ?_ (by rfl))
      | ((with_reducible apply gT2 oIsB); refine iT_cmp op_isB s_isB ?_ ?_ (by rfl))
      | ((with_reducible apply gT2 oNotB); refine iT_cmp op_notB s_notB ?_ ?_ (by rfl))
      | ((with_reducible apply gT2 (oInT false)); refine iT_cmp (or_inT (room3 (by assumption))) (s_inT false) ?_ ?_ (by rfl))
      | ((with_reducible apply gT2 (oInT true)); refine iT_cmp (or_notInT (room3 (by assumption))) (s_inT true) ?_ ?_ (by rfl))
      | ((with_reducible apply gT2 oEqS); refine iT_cmp op_eq s_eqS ?_ ?_ (by rfl))
      | ((with_reducible apply gT2 oNeS); refine iT_cmp op_ne s_neS ?_ ?_ (by rfl))
      | fail))
    | ((with_reducible apply cTCh); (first
      | ((with_reducible apply gTCh oLe oLe); refine iT_chain op_le s_le op_le s_le ?_ ?_ ?_)
      | ((with_reducible apply gTCh oLe oLt); refine iT_chain op_le s_le op_lt s_lt ?_ ?_ ?_)
      | ((with_reducible apply gTCh oLt oLe); refine iT_chain op_lt s_lt op_le s_le ?_ ?_ ?_)
      | ((with_reducible apply gTCh oLt oLt); refine iT_chain op_lt s_lt op_lt s_lt ?_ ?_ ?_)
      | ((with_reducible apply gTCh oLt oGt); refine iT_chain op_lt s_lt op_gt s_gt ?_ ?_ ?_)
      | fail))
    | (with_reducible refine iT_w (iW_and ?_ ?_))
    | (with_reducible refine iT_w (iW_or ?_ ?_))
    | (with_reducible refine iT_not ?_)
    | ((with_reducible apply gTru); refine iT_tru ?_)
    | fail))
  | ((with_reducible apply cS); (first
    | ((with_reducible apply gAsT); refine iS_asgT ?_ (by first | exact iG_name (by assumption) rfl (by first | exact .inl rfl | exact .inr rfl) | exact iG_pair rfl (by assumption) rfl (by first | exact .inl rfl | exact .inr rfl) (iG_pair rfl (by assumption) rfl (by first | exact .inl rfl | exact .inr rfl) (by refine iG_tup rfl ?_; repeat' first | exact iGs_nil | refine iGs_cons (by assumption) rfl (by first | exact .inl rfl | exact .inr rfl) ?_)) | (refine iG_tup rfl ?_; repeat' first | exact iGs_nil | refine iGs_cons (by assumption) rfl (by first | exact .inl rfl | exact .inr rfl) ?_)))
    | (with_reducible exact iS_bad)
    | (with_reducible exact iS_pass)
    | (with_reducible exact iS_doc)
    | (with_reducible exact iS_break)
    | (with_reducible exact iS_cont)
    | (with_reducible exact iS_retN)
    | (with_reducible refine iS_if ?_ ?_ ?_)
    | ((with_reducible apply gWh); refine iS_while (passes_of rfl) ?_ ?_)
    | ((with_reducible apply gFor); refine iS_for (passes_of rfl) rfl ?_ (by first | exact iG_name (by assumption) rfl (by first | exact .inl rfl | exact .inr rfl) | exact iG_pair rfl (by assumption) rfl (by first | exact .inl rfl | exact .inr rfl) (iG_pair rfl (by assumption) rfl (by first | exact .inl rfl | exact .inr rfl) (by refine iG_tup rfl ?_; repeat' first | exact iGs_nil | refine iGs_cons (by assumption) rfl (by first | exact .inl rfl | exact .inr rfl) ?_)) | (refine iG_tup rfl ?_; repeat' first | exact iGs_nil | refine iGs_cons (by assumption) rfl (by first | exact .inl rfl | exact .inr rfl) ?_)) ?_)
    | (with_reducible refine iS_retT ?_)
    | (with_reducible refine iS_ret ?_)
    | ((with_reducible apply gSet); (first | refine iS_setLc rfl (by assumption) rfl rfl (sw_true rfl rfl (by rfl) (by rfl)) ?_ (blkOk_by (by kernel_rfl)) (fun _ _ _ _ _ => (by first | exact iG_name (by assumption) rfl (by first | exact .inl rfl | exact .inr rfl) | exact iG_pair rfl (by assumption) rfl (by first | exact .inl rfl | exact .inr rfl) (iG_pair rfl (by assumption) rfl (by first | exact .inl rfl | exact .inr rfl) (by refine iG_tup rfl ?_; repeat' first | exact iGs_nil | refine iGs_cons (by assumption) rfl (by first | exact .inl rfl | exact .inr rfl) ?_)) | (refine iG_tup rfl ?_; repeat' first | exact iGs_nil | refine iGs_cons (by assumption) rfl (by first | exact .inl rfl | exact .inr rfl) ?_))) ?_ ?_ (by decide) | refine iS_set (by assumption) rfl (by first | exact .inl rfl | exact .inr rfl) ?_))
    | ((with_reducible apply gSt); refine iS_set (by assumption) rfl (by first | exact .inl rfl | exact .inr rfl) ?_)
    | ((with_reducible apply gSetF); (first | refine iS_setLcF rfl (by assumption) rfl rfl (sw_true rfl rfl (by rfl) (by rfl)) ?_ (blkOk_by (by kernel_rfl)) (fun _ _ _ _ _ => (by first | exact iG_name (by assumption) rfl (by first | exact .inl rfl | exact .inr rfl) | exact iG_pair rfl (by assumption) rfl (by first | exact .inl rfl | exact .inr rfl) (iG_pair rfl (by assumption) rfl (by first | exact .inl rfl | exact .inr rfl) (by refine iG_tup rfl ?_; repeat' first | exact iGs_nil | refine iGs_cons (by assumption) rfl (by first | exact .inl rfl | exact .inr rfl) ?_)) | (refine iG_tup rfl ?_; repeat' first | exact iGs_nil | refine iGs_cons (by assumption) rfl (by first | exact .inl rfl | exact .inr rfl) ?_))) ?_ ?_ (by decide) | refine iS_setF (by assumption) rfl (by first | exact .inl rfl | exact .inr rfl) ?_))
    | ((with_reducible apply gStF); refine iS_setF (by assumption) rfl (by first | exact .inl rfl | exact .inr rfl) ?_)
    | ((with_reducible apply gAug oIAdd); refine iS_aug (by assumption) rfl (by first | exact .inl rfl | exact .inr rfl) iop_add s_iadd ?_)
    | ((with_reducible apply gAug oSub); refine iS_aug (by assumption) rfl (by first | exact .inl rfl | exact .inr rfl) iop_sub s_sub ?_)
    | ((with_reducible apply gSx fSetT); refine iS_setIxT (room3 (by assumption)) (pe_var rfl (by first | exact .inl rfl | exact .inr (.inl rfl) | exact .inr (.inr rfl))) ?_ ?_)
    | ((with_reducible apply gSx fSetL); refine iS_setIx (pe_var rfl (by first | exact .inl rfl | exact .inr (.inl rfl) | exact .inr (.inr rfl))) ?_ ?_)
    | ((with_reducible apply gSw); refine iS_swap rfl (pe_var rfl (by first | exact .inl rfl | exact .inr (.inl rfl) | exact .inr (.inr rfl))) ?_ (pe_var rfl (by first | exact .inl rfl | exact .inr (.inl rfl) | exact .inr (.inr rfl))) ?_ ?_)
    | ((with_reducible apply gPar); (first | refine iS_par rfl (by assumption) rfl rfl (by decide) rfl rfl ?_ (by rfl) | refine iS_par3 rfl (by assumption) rfl rfl rfl (by decide) (by decide) (by decide) rfl rfl rfl ?_ (by rfl)))
    | ((with_reducible apply gAs); refine iS_asg ?_ (by first | exact iG_name (by assumption) rfl (by first | exact .inl rfl | exact .inr rfl) | exact iG_pair rfl (by assumption) rfl (by first | exact .inl rfl | exact .inr rfl) (iG_pair rfl (by assumption) rfl (by first | exact .inl rfl | exact .inr rfl) (by refine iG_tup rfl ?_; repeat' first | exact iGs_nil | refine iGs_cons (by assumption) rfl (by first | exact .inl rfl | exact .inr rfl) ?_)) | (refine iG_tup rfl ?_; repeat' first | exact iGs_nil | refine iGs_cons (by assumption) rfl (by first | exact .inl rfl | exact .inr rfl) ?_)))
    | ((with_reducible apply gDrop); refine iS_expr ?_)
    | fail))
  | ((with_reducible apply cSs); (first
    | (with_reducible refine iSs_cons ?_ ?_)
    | (with_reducible refine iSs_one ?_)
    | (with_reducible exact iSs_nil)
    | fail))
  | ((with_reducible apply cK); (first
    | (with_reducible refine iK_cons ?_ ?_)
    | (with_reducible exact iK_nil)
    | fail))
  | (with_reducible exact iO_none)
  | (with_reducible refine iO_some ?_)
  | (with_reducible exact iF_nil)
  | (with_reducible refine iF_one ?_)
  | ((with_reducible apply gI1); refine iI_range1 rfl (Gb.range (by assumption)) ?_)
  | ((with_reducible apply gI3); refine iI_range3 rfl (Gb.range (by assumption)) ?_)
  | ((with_reducible apply gI2); refine iI_range2 rfl (Gb.range (by assumption)) ?_)
  | ((with_reducible apply gIez); refine iI_ez rfl (Gb.enumerate (by assumption)) rfl (Gb.zip (by assumption)) ?_)
  | ((with_reducible apply gIe); refine iI_enum rfl (Gb.enumerate (by assumption)) ?_)
  | (with_reducible refine iI_U ?_)
  | (with_reducible refine iW_and ?_ ?_)
  | (with_reducible refine iW_or ?_ ?_)
  | (with_reducible refine iW_and1 ?_)
  | (with_reducible refine iW_or1 ?_)
  | (with_reducible intro _ _ _ _ _)
  | fail))

-- is_car: 0=value 1=letter
def m_is_car : MS := (mSeq (mIfS (mOrT (mNotT (mTru (mIsi (mVar 0) "str"))) (mNotT (mTest (mChain oLe oLe (mC (.int 1)) (mB oLen (mCons (mVar 0) mNil)) (mC (.int 4)))))) (mRet (mC (.bool false))) mSkip) (mRet (mB oAll (mCons (mCompN [("letter", 1)] (store 1) (mIter (mVar 0)) mYes (m2 (oIn false) (mVar 1) (mC (.str "abcdefghijklmnopqrstuvwxyz")))) mNil))))
def fn_is_car : Fn := runFn 1 1 m_is_car
-- is_lane: 0=value 1=car
def m_is_lane : MS := (mRet (mAnd (mIsi (mVar 0) "tuple") (mAnd (mB oAll (mCons (mCompN [("car", 1)] (store 1) (mIter (mVar 0)) mYes (mCall [false] fn_is_car (mCons (mVar 1) mNil))) mNil)) (m2 oEq (mB oLen (mCons (mB oSet (mCons (mVar 0) mNil)) mNil)) (mB oLen (mCons (mVar 0) mNil))))))
def fn_is_lane : Fn := runFn 1 1 m_is_lane
-- is_arrival: 0=value
def m_is_arrival : MS := (mSeq (mIfS (mOrT (mNotT (mTru (mIsi (mVar 0) "tuple"))) (mTest (m2 oNe (mB oLen (mCons (mVar 0) mNil)) (mC (.int 2))))) (mRet (mC (.bool false))) mSkip) (mRet (mAnd (mIsi (m2 oIx (mVar 0) (mC (.int 0))) "str") (mAnd (m2 oEq (m2 oIx (mVar 0) (mC (.int 0))) (mC (.str "in"))) (mCall [false] fn_is_car (mCons (m2 oIx (mVar 0) (mC (.int 1))) mNil))))))
def fn_is_arrival : Fn := runFn 1 0 m_is_arrival
-- is_departure: 0=value
def m_is_departure : MS := (mRet (mAnd (mIsi (mVar 0) "tuple") (mAnd (m2 oEq (mB oLen (mCons (mVar 0) mNil)) (mC (.int 1))) (mAnd (mIsi (m2 oIx (mVar 0) (mC (.int 0))) "str") (m2 oEq (m2 oIx (mVar 0) (mC (.int 0))) (mC (.str "out")))))))
def fn_is_departure : Fn := runFn 1 0 m_is_departure
-- check_lane: 0=value
def m_check_lane : MS := (mIfS (mNotT (mTru (mCall [false] fn_is_lane (mCons (mVar 0) mNil)))) mBad mSkip)
def fn_check_lane : Fn := runFn 1 0 m_check_lane
-- is_log_for: 0=start 1=value 2=used 3=size 4=event
def m_is_log_for : MS := (mSeq (mIfS (mNotT (mTru (mIsi (mVar 1) "list"))) (mRet (mC (.bool false))) mSkip) (mSeq (mAsg (store 2) (mB oSet (mCons (mVar 0) mNil))) (mSeq (mAsg (store 3) (mB oLen (mCons (mVar 0) mNil))) (mSeq (mFor (store 4) (mIter (mVar 1)) (mIfS (mAndT (mTru (mCall [false] fn_is_arrival (mCons (mVar 4) mNil))) (mTest (m2 (oIn true) (m2 oIx (mVar 4) (mC (.int 1))) (mVar 2)))) (mSeq (mDrop (mMeth 1 2 fAdd (mCons (m2 oIx (mVar 4) (mC (.int 1))) mNil))) (mAug 3 oIAdd (mC (.int 1)))) (mIfS (mAndT (mTru (mCall [false] fn_is_departure (mCons (mVar 4) mNil))) (mTest (m2 oGt (mVar 3) (mC (.int 0))))) (mAug 3 oSub (mC (.int 1))) (mRet (mC (.bool false)))))) (mRet (mC (.bool true)))))))
def fn_is_log_for : Fn := runFn 2 3 m_is_log_for
-- check_log: 0=start 1=log
def m_check_log : MS := (mSeq (mDrop (mCall [false] fn_check_lane (mCons (mVar 0) mNil))) (mIfS (mNotT (mTru (mCall [false, false] fn_is_log_for (mCons (mVar 0) (mCons (mVar 1) mNil))))) mBad mSkip))
def fn_check_log : Fn := runFn 2 0 m_check_log
-- count_sizes: 0=start 1=log 2=found 3=event
def m_count_sizes : MS := (mSeq (mAsg (store 2) (mLst (mCons (mB oLen (mCons (mVar 0) mNil)) mNil))) (mSeq (mFor (store 3) (mIter (mVar 1)) (mDrop (mMeth 0 2 fAppend (mCons (m2 oAdd (m2 oIx (mVar 2) (m1 oNeg (mC (.int 1)))) (mIf (mTest (m2 oEq (m2 oIx (mVar 3) (mC (.int 0))) (mC (.str "in")))) (mC (.int 1)) (m1 oNeg (mC (.int 1))))) mNil)))) (mRet (mVar 2))))
def fn_count_sizes : Fn := runFn 2 2 m_count_sizes
-- car_numbers: 0=start 1=log 2=cars 3=number 4=car 5=event
def m_car_numbers : MS := (mSeq (mAsgF 2 (m2 oAdd (mB oList (mCons (mVar 0) mNil)) (mCompN [("event", 5)] (store 5) (mIter (mVar 1)) (mTest (m2 oEq (m2 oIx (mVar 5) (mC (.int 0))) (mC (.str "in")))) (m2 oIx (mVar 5) (mC (.int 1)))))) (mRet (mDCompN [("number", 3), ("car", 4)] (mNames [3, 4]) (mEnum (mCons (mVar 2) mNil)) mYes (mVar 4) (mVar 3))))
def fn_car_numbers : Fn := runFn 2 4 m_car_numbers
-- check_cars: 0=start 1=log 2=cars 3=known 4=car
def m_check_cars : MS := (mSeq (mIfS (mOrT (mNotT (mTru (mIsi (mVar 2) "tuple"))) (mOrT (mNotT (mTru (mB oAll (mCons (mCompN [("car", 4)] (store 4) (mIter (mVar 2)) mYes (mCall [false] fn_is_car (mCons (mVar 4) mNil))) mNil)))) (mTest (m2 oLt (mB oLen (mCons (mB oSet (mCons (mVar 2) mNil)) mNil)) (mB oLen (mCons (mVar 2) mNil)))))) mBad mSkip) (mSeq (mAsgF 3 (mCall [false, false] fn_car_numbers (mCons (mVar 0) (mCons (mVar 1) mNil)))) (mIfS (mNotT (mTru (mB oAll (mCons (mCompN [("car", 4)] (store 4) (mIter (mVar 2)) mYes (m2 (oIn false) (mVar 4) (mVar 3))) mNil)))) mBad mSkip)))
def fn_check_cars : Fn := runFn 3 2 m_check_cars
-- check_all: 0=start 1=log 2=cars
def m_check_all : MS := (mSeq (mDrop (mCall [false] fn_check_lane (mCons (mVar 0) mNil))) (mSeq (mDrop (mCall [false, false] fn_check_log (mCons (mVar 0) (mCons (mVar 1) mNil)))) (mDrop (mCall [false, false, false] fn_check_cars (mCons (mVar 0) (mCons (mVar 1) (mCons (mVar 2) mNil)))))))
def fn_check_all : Fn := runFn 3 0 m_check_all
-- count_departures: 0=log 1=counts 2=event
def m_count_departures : MS := (mSeq (mAsg (store 1) (mLst (mCons (mC (.int 0)) mNil))) (mSeq (mFor (store 2) (mIter (mVar 0)) (mDrop (mMeth 0 1 fAppend (mCons (m2 oAdd (m2 oIx (mVar 1) (m1 oNeg (mC (.int 1)))) (mB oInt (mCons (m2 oEq (m2 oIx (mVar 2) (mC (.int 0))) (mC (.str "out"))) mNil))) mNil)))) (mRet (mVar 1))))
def fn_count_departures : Fn := runFn 1 2 m_count_departures
-- arriving_positions: 0=log 1=cars 2=position 3=event
def m_arriving_positions : MS := (mRet (mCompN [("position", 2), ("event", 3)] (mNames [2, 3]) (mEnum (mCons (mVar 0) mNil)) (mAndT (mTest (m2 oEq (m2 oIx (mVar 3) (mC (.int 0))) (mC (.str "in")))) (mTest (m2 (oIn false) (m2 oIx (mVar 3) (mC (.int 1))) (mVar 1)))) (mVar 2)))
def fn_arriving_positions : Fn := runFn 2 2 m_arriving_positions
-- first_shortage: 0=start 1=log 2=cars 3=stay 4=moment 5=size 6=car
def m_first_shortage : MS := (mSeq (mAsg (store 3) (mB oLen (mCons (mCompN [("car", 6)] (store 6) (mIter (mVar 0)) (mTest (m2 (oIn false) (mVar 6) (mVar 2))) (mVar 6)) mNil))) (mSeq (mFor (mNames [4, 5]) (mEnum (mCons (mCall [false, false] fn_count_sizes (mCons (mVar 0) (mCons (mVar 1) mNil))) mNil)) (mSeq (mIfS (mAndT (mTest (m2 oGt (mVar 4) (mC (.int 0)))) (mAndT (mTest (m2 oEq (m2 oIx (m2 oIx (mVar 1) (m2 oSub (mVar 4) (mC (.int 1)))) (mC (.int 0))) (mC (.str "in")))) (mTest (m2 (oIn false) (m2 oIx (m2 oIx (mVar 1) (m2 oSub (mVar 4) (mC (.int 1)))) (mC (.int 1))) (mVar 2))))) (mAug 3 oIAdd (mC (.int 1))) mSkip) (mIfS (mTest (m2 oGt (mVar 3) (mVar 5))) (mRet (mVar 4)) mSkip))) (mRet (mC .none))))
def fn_first_shortage : Fn := runFn 3 4 m_first_shortage
-- set_reason: 0=start 1=log 2=cars 3=total 4=moment 5=places 6=positions 7=car 8=left 9=right 10=departures 11=place
def m_set_reason : MS := (mSeq (mAsgF 3 (m2 oIx (mCall [false, false] fn_count_sizes (mCons (mVar 0) (mCons (mVar 1) mNil))) (m1 oNeg (mC (.int 1))))) (mSeq (mIfS (mTest (m2 oNe (mB oLen (mCons (mVar 2) mNil)) (mVar 3))) (mRet (mTup (mCons (mC (.str "size")) (mCons (mVar 3) mNil)))) mSkip) (mSeq (mAsgF 4 (mCall [false, false, false] fn_first_shortage (mCons (mVar 0) (mCons (mVar 1) (mCons (mVar 2) mNil))))) (mSeq (mIfS (mTest (m2 oNotN (mVar 4) (mC .none))) (mRet (mTup (mCons (mC (.str "moment")) (mCons (mVar 4) mNil)))) mSkip) (mSeq (mAsgF 5 (mCompN [("place", 11), ("car", 7)] (mNames [11, 7]) (mEnum (mCons (mVar 0) mNil)) (mTest (m2 (oIn false) (mVar 7) (mVar 2))) (mVar 11))) (mSeq (mAsgF 6 (mCall [false, false] fn_arriving_positions (mCons (mVar 1) (mCons (mVar 2) mNil)))) (mSeq (mIfS (mTest (m2 oEq (mVar 5) (mLst mNil))) (mRet (mC .none)) mSkip) (mSeq (mFor (store 7) (mIter (mSl (mVar 0) (mP (m2 oIx (mVar 5) (mC (.int 0)))) (mP (m2 oIx (mVar 5) (m1 oNeg (mC (.int 1))))))) (mIfS (mTest (m2 (oIn true) (mVar 7) (mVar 2))) (mRet (mTup (mCons (mC (.str "block")) (mCons (mVar 7) mNil)))) mSkip)) (mSeq (mPar [8, 9] (mCons (m2 oIx (mVar 5) (mC (.int 0))) (mCons (m2 oSub (m2 oSub (mB oLen (mCons (mVar 0) mNil)) (m2 oIx (mVar 5) (m1 oNeg (mC (.int 1))))) (mC (.int 1))) mNil))) (mSeq (mIfS (mTest (m2 oNe (mVar 6) (mLst mNil))) (mSeq (mAsgF 10 (m2 oIx (mCall [false] fn_count_departures (mCons (mVar 1) mNil)) (m2 oIx (mVar 6) (mC (.int 0))))) (mIfS (mTest (m2 oLt (mVar 10) (mB oMin (mCons (mVar 8) (mCons (mVar 9) mNil))))) (mRet (mTup (mCons (mC (.str "sides")) (mCons (mVar 8) (mCons (mVar 9) (mCons (mVar 10) mNil)))))) mSkip)) mSkip) (mRet (mC .none))))))))))))
def fn_set_reason : Fn := runFn 3 9 m_set_reason
-- can_stay: 0=start 1=log 2=cars
def m_can_stay : MS := (mSeq (mDrop (mCall [false, false, false] fn_check_all (mCons (mVar 0) (mCons (mVar 1) (mCons (mVar 2) mNil))))) (mRet (m2 oIsN (mCall [false, false, false] fn_set_reason (mCons (mVar 0) (mCons (mVar 1) (mCons (mVar 2) mNil)))) (mC .none))))
def fn_can_stay : Fn := runFn 3 0 m_can_stay
-- why_cannot_stay: 0=start 1=log 2=cars
def m_why_cannot_stay : MS := (mSeq (mDrop (mCall [false, false, false] fn_check_all (mCons (mVar 0) (mCons (mVar 1) (mCons (mVar 2) mNil))))) (mRet (mCall [false, false, false] fn_set_reason (mCons (mVar 0) (mCons (mVar 1) (mCons (mVar 2) mNil))))))
def fn_why_cannot_stay : Fn := runFn 3 0 m_why_cannot_stay
-- _law_cell_at: 0=script 1=k
def m__law_cell_at : MS := (mSeq (mIfS (mTest (m2 oLt (mVar 1) (mB oLen (mCons (mVar 0) mNil)))) (mRet (m2 oIx (mVar 0) (mVar 1))) mSkip) (mRet (mC (.int 0))))
def fn__law_cell_at : Fn := runFn 2 0 m__law_cell_at
-- _law_bag: 0=cell 1=k
def m__law_bag : MS := (mRet (mLst (mCons (mB oMax (mCons (mC (.int 0)) (mCons (m2 oSub (mVar 0) (m2 oPow (mC (.int 10)) (mC (.int 18)))) mNil))) (mCons (m2 oAdd (m2 oMod (mVar 0) (mC (.int 162259276829213363391578010288127))) (m2 oMul (mC (.int 6469)) (m2 oAdd (mVar 1) (mC (.int 1))))) (mCons (mC (.int 0)) mNil)))))
def fn__law_bag : Fn := runFn 2 0 m__law_bag
-- _law_take: 0=bag 1=limit 2=mixed 3=found
def m__law_take : MS := (mSeq (mIfS (mTest (m2 oGt (m2 oIx (mVar 0) (mC (.int 0))) (mC (.int 1)))) (mSeq (mAsgF 3 (m2 oMod (m2 oIx (mVar 0) (mC (.int 0))) (mVar 1))) (mSeq (mSetIx 0 fSetL (mC (.int 0)) (m2 oDiv (m2 oIx (mVar 0) (mC (.int 0))) (mVar 1))) (mRet (mVar 3)))) mSkip) (mSeq (mSetIx 0 fSetL (mC (.int 2)) (m2 oAdd (m2 oIx (mVar 0) (mC (.int 2))) (mC (.int 1)))) (mSeq (mAsgF 2 (m2 oMod (m2 oPow (m2 oAdd (m2 oIx (mVar 0) (mC (.int 1))) (m2 oMul (mC (.int 1300223)) (m2 oIx (mVar 0) (mC (.int 2))))) (mC (.int 3))) (mC (.int 162259276829213363391578010288127)))) (mSeq (mAsgF 2 (m2 oMod (m2 oPow (m2 oAdd (mVar 2) (m2 oMul (mC (.int 15486253)) (m2 oIx (mVar 0) (mC (.int 2))))) (mC (.int 5))) (mC (.int 618970019642690137449562111)))) (mRet (m2 oMod (m2 oDiv (mVar 2) (mC (.int 1048576))) (mVar 1)))))))
def fn__law_take : Fn := runFn 2 2 m__law_take
-- _law_names: 0=bag 1=many 2=pool 3=sign 4=k 5=more
def m__law_names : MS := (mSeq (mAsg (store 2) (mLst (mCons (mC (.str "a")) (mCons (mC (.str "b")) (mCons (mC (.str "z")) (mCons (mC (.str "aa")) (mCons (mC (.str "ab")) (mCons (mC (.str "in")) (mCons (mC (.str "out")) (mCons (mC (.str "l")) (mCons (mC (.str "r")) (mCons (mC (.str "none")) (mCons (mC (.str "zzzz")) (mCons (mC (.str "abcd")) (mCons (mC (.str "abce")) mNil))))))))))))))) (mSeq (mFor (store 3) (mIter (mC (.str "cdefghijkmnopq"))) (mAsg (store 2) (m2 oAdd (m2 oAdd (mVar 2) (mLst (mCons (mVar 3) (mCons (m2 oAdd (mVar 3) (mC (.str "a"))) mNil)))) (mCompN [("more", 5)] (store 5) (mIter (mC (.str "pqrstuvwxyz"))) mYes (m2 oAdd (m2 oAdd (mVar 3) (mC (.str "x"))) (mVar 5)))))) (mRet (mCompN [("k", 4)] (store 4) (mRange1 (mCons (mVar 1) mNil)) mYes (mMeth 0 2 fPopAt (mCons (mCall [true, false] fn__law_take (mCons (mVar 0) (mCons (mB oLen (mCons (mVar 2) mNil)) mNil))) mNil))))))
def fn__law_names : Fn := runFn 2 4 m__law_names
-- _law_built: 0=bag 1=widest 2=most 3=names 4=size 5=lean 6=entries 7=k 8=initial 9=fresh 10=way 11=departs
def m__law_built : MS := (mSeq (mAsgF 3 (mCall [true, false] fn__law_names (mCons (mVar 0) (mCons (m2 oAdd (mVar 1) (mVar 2)) mNil)))) (mSeq (mAsgF 4 (mCall [true, false] fn__law_take (mCons (mVar 0) (mCons (m2 oAdd (mVar 1) (mC (.int 1))) mNil)))) (mSeq (mPar [8, 9] (mCons (mB oTuple (mCons (mSl (mVar 3) mNoP (mP (mVar 4))) mNil)) (mCons (mSl (mVar 3) (mP (mVar 4)) mNoP) mNil))) (mSeq (mAsgF 5 (mCall [true, false] fn__law_take (mCons (mVar 0) (mCons (mC (.int 4)) mNil)))) (mSeq (mAsg (store 6) (mLst mNil)) (mSeq (mFor (store 7) (mRange1 (mCons (mCall [true, false] fn__law_take (mCons (mVar 0) (mCons (m2 oAdd (mVar 2) (mC (.int 1))) mNil))) mNil)) (mSeq (mAsgF 10 (mCall [true, false] fn__law_take (mCons (mVar 0) (mCons (mC (.int 4)) mNil)))) (mSeq (mAsgF 11 (m2 oIx (mLst (mCons (m2 oLt (mVar 10) (mC (.int 1))) (mCons (m2 oLt (mVar 10) (mC (.int 3))) (mCons (m2 oEq (m2 oMod (m2 oDiv (mVar 7) (mC (.int 4))) (mC (.int 2))) (mC (.int 1))) (mCons (m2 oLt (mVar 10) (mC (.int 2))) mNil))))) (mVar 5))) (mIfS (mAndT (mTest (m2 oGt (mVar 4) (mC (.int 0)))) (mOrT (mTru (mVar 11)) (mTest (m2 oGt (mVar 4) (mC (.int 39)))))) (mSeq (mDrop (mMeth 0 6 fAppend (mCons (mTup (mCons (mC (.str "out")) mNil)) mNil))) (mAsgF 4 (m2 oSub (mVar 4) (mC (.int 1))))) (mSeq (mDrop (mMeth 0 6 fAppend (mCons (mTup (mCons (mC (.str "in")) (mCons (mMeth 0 9 fPopAt (mCons (mC (.int 0)) mNil)) mNil))) mNil))) (mAsgF 4 (m2 oAdd (mVar 4) (mC (.int 1))))))))) (mRetT (mCons (mVar 8) (mCons (mVar 6) mNil)))))))))
def fn__law_built : Fn := runFn 3 9 m__law_built
-- _law_step: 0=lines 1=entry 2=found 3=line
def m__law_step : MS := (mSeq (mAsg (store 2) mNewT) (mSeq (mFor (store 3) (mIter (mVar 0)) (mIfS (mTest (m2 oEq (m2 oIx (mVar 1) (mC (.int 0))) (mC (.str "in")))) (mSeq (mSetIx 2 fSetT (m2 oAdd (mTup (mCons (m2 oIx (mVar 1) (mC (.int 1))) mNil)) (mVar 3)) (mC (.bool true))) (mSetIx 2 fSetT (m2 oAdd (mVar 3) (mTup (mCons (m2 oIx (mVar 1) (mC (.int 1))) mNil))) (mC (.bool true)))) (mSeq (mSetIx 2 fSetT (mSl (mVar 3) (mP (mC (.int 1))) mNoP) (mC (.bool true))) (mSetIx 2 fSetT (mSl (mVar 3) mNoP (mP (m1 oNeg (mC (.int 1))))) (mC (.bool true)))))) (mRet (mB oListT (mCons (mVar 2) mNil)))))
def fn__law_step : Fn := runFn 2 2 m__law_step
-- _law_few: 0=bag 1=widest 2=most 3=bound 4=lines 5=k 6=initial 7=entries 8=more
def m__law_few : MS := (mSeq (mAsg (mNames [6, 7]) (mCall [true, false, false] fn__law_built (mCons (mVar 0) (mCons (mVar 1) (mCons (mVar 2) mNil))))) (mSeq (mAsgF 4 (mLst (mCons (mVar 6) mNil))) (mSeq (mFor (store 5) (mRange1 (mCons (mB oLen (mCons (mVar 7) mNil)) mNil)) (mSeq (mAsgF 8 (mCall [false, false] fn__law_step (mCons (mVar 4) (mCons (m2 oIx (mVar 7) (mVar 5)) mNil)))) (mSeq (mIfS (mTest (m2 oGt (mB oLen (mCons (mVar 8) mNil)) (mVar 3))) (mRetT (mCons (mVar 6) (mCons (mSl (mVar 7) mNoP (mP (mVar 5))) (mCons (mVar 4) mNil)))) mSkip) (mAsgF 4 (mVar 8))))) (mRetT (mCons (mVar 6) (mCons (mVar 7) (mCons (mVar 4) mNil)))))))
def fn__law_few : Fn := runFn 4 5 m__law_few
-- _law_folk: 0=initial 1=entries 2=entry
def m__law_folk : MS := (mRet (m2 oAdd (mB oList (mCons (mVar 0) mNil)) (mCompN [("entry", 2)] (store 2) (mIter (mVar 1)) (mTest (m2 oEq (m2 oIx (mVar 2) (mC (.int 0))) (mC (.str "in")))) (m2 oIx (mVar 2) (mC (.int 1))))))
def fn__law_folk : Fn := runFn 2 1 m__law_folk
-- _law_set: 0=bag 1=line 2=folk 3=kind 4=found 5=rest 6=name 7=k
def m__law_set : MS := (mSeq (mAsgF 3 (mCall [true, false] fn__law_take (mCons (mVar 0) (mCons (mC (.int 3)) mNil)))) (mSeq (mAsg (store 4) (mB oList (mCons (mVar 1) mNil))) (mSeq (mIfS (mAndT (mTest (m2 oEq (mVar 3) (mC (.int 1)))) (mTest (m2 oNe (mVar 4) (mLst mNil)))) (mSetIx 4 fSetL (mCall [true, false] fn__law_take (mCons (mVar 0) (mCons (mB oLen (mCons (mVar 4) mNil)) mNil))) (m2 oIx (mVar 2) (mCall [true, false] fn__law_take (mCons (mVar 0) (mCons (mB oLen (mCons (mVar 2) mNil)) mNil))))) mSkip) (mSeq (mIfS (mTest (m2 oEq (mVar 3) (mC (.int 2)))) (mAsg (store 4) (mCompN [("name", 6)] (store 6) (mIter (mVar 2)) (mTest (m2 oEq (mCall [true, false] fn__law_take (mCons (mVar 0) (mCons (mC (.int 2)) mNil))) (mC (.int 0)))) (mVar 6))) mSkip) (mSeq (mAsg (store 5) (mSortedSet (mVar 4))) (mRet (mB oTuple (mCons (mCompN [("k", 7)] (store 7) (mRange1 (mCons (mB oLen (mCons (mVar 5) mNil)) mNil)) mYes (mMeth 0 5 fPopAt (mCons (mCall [true, false] fn__law_take (mCons (mVar 0) (mCons (mB oLen (mCons (mVar 5) mNil)) mNil))) mNil))) mNil))))))))
def fn__law_set : Fn := runFn 3 5 m__law_set
-- _law_truth: 0=found 1=due
def m__law_truth : MS := (mRet (mAnd (mIsi (mVar 0) "bool") (m2 oEq (mVar 0) (mVar 1))))
def fn__law_truth : Fn := runFn 2 0 m__law_truth
-- law: 0=script 1=k 2=bag 3=folk 4=known 5=kept 6=turn 7=line 8=initial 9=entries 10=lines 11=some 12=due
def m_law : MS := (mSeq (mFor (store 1) (mRange1 (mCons (mB oMax (mCons (mC (.int 1)) (mCons (mB oMin (mCons (mC (.int 4)) (mCons (mB oLen (mCons (mVar 0) mNil)) mNil))) mNil))) mNil)) (mSeq (mAsg (store 2) (mCall [false, false] fn__law_bag (mCons (mCall [false, false] fn__law_cell_at (mCons (mVar 0) (mCons (mVar 1) mNil))) (mCons (mVar 1) mNil)))) (mSeq (mAsg (mNames [8, 9, 10]) (mCall [true, false, false, false] fn__law_few (mCons (mVar 2) (mCons (mC (.int 4)) (mCons (mC (.int 9)) (mCons (mC (.int 120)) mNil)))))) (mSeq (mAsgF 3 (mCall [false, false] fn__law_folk (mCons (mVar 8) (mCons (mVar 9) mNil)))) (mSeq (mAsgF 4 (mB oDictT (mCons (mCompN [("line", 7)] (store 7) (mIter (mVar 10)) mYes (mTup (mCons (mB oTuple (mCons (mB oSortS (mCons (mVar 7) mNil)) mNil)) (mCons (mC (.bool true)) mNil)))) mNil))) (mSeq (mAsgF 5 (mB oRepr (mCons (mVar 9) mNil))) (mSeq (mFor (store 6) (mRange1 (mCons (mC (.int 16)) mNil)) (mSeq (mAsgF 11 (mCall [true, false, false] fn__law_set (mCons (mVar 2) (mCons (m2 oIx (mVar 10) (mCall [true, false] fn__law_take (mCons (mVar 2) (mCons (mB oLen (mCons (mVar 10) mNil)) mNil)))) (mCons (mVar 3) mNil))))) (mSeq (mAsgF 12 (m2 (oInT false) (mB oTuple (mCons (mB oSortS (mCons (mVar 11) mNil)) mNil)) (mVar 4))) (mSeq (mIfS (mOrT (mNotT (mTru (mCall [false, false] fn__law_truth (mCons (mCall [false, false, false] fn_can_stay (mCons (mVar 8) (mCons (mVar 9) (mCons (mVar 11) mNil)))) (mCons (mVar 12) mNil))))) (mTest (m2 oNeS (mB oRepr (mCons (mVar 9) mNil)) (mVar 5)))) (mRet (mC (.bool false))) mSkip) (mSeq (mIfS (mTest (m2 oNe (m2 oIsN (mCall [false, false, false] fn_why_cannot_stay (mCons (mVar 8) (mCons (mVar 9) (mCons (mVar 11) mNil)))) (mC .none)) (mVar 12))) (mRet (mC (.bool false))) mSkip) (mIfS (mNotT (mTru (mCall [false, false] fn__law_truth (mCons (mCallK [2, 1, 0] [false, false, false] fn_can_stay (mCons (m1 oRevT (mVar 11)) (mCons (mVar 9) (mCons (mVar 8) mNil)))) (mCons (mVar 12) mNil))))) (mRet (mC (.bool false))) mSkip)))))) (mSeq (mDrop (mMeth 0 9 fAppend (mCons (mTup (mCons (mC (.str "in")) (mCons (mC (.str "yy")) mNil))) mNil))) (mSeq (mAsgF 7 (m2 oIx (mVar 10) (mCall [true, false] fn__law_take (mCons (mVar 2) (mCons (mB oLen (mCons (mVar 10) mNil)) mNil))))) (mIfS (mOrT (mTest (m2 oNotB (mCall [false, false, false] fn_can_stay (mCons (mVar 8) (mCons (mVar 9) (mCons (m2 oAdd (mVar 7) (mTup (mCons (mC (.str "yy")) mNil))) mNil)))) (mC (.bool true)))) (mTest (m2 oNotB (mCall [false, false, false] fn_can_stay (mCons (mVar 8) (mCons (mVar 9) (mCons (mVar 7) mNil)))) (mC (.bool false))))) (mRet (mC (.bool false))) mSkip)))))))))) (mRet (mAnd (m2 oIsB (mCall [false, false, false] fn_can_stay (mCons (mTup mNil) (mCons (mLst mNil) (mCons (mTup mNil) mNil)))) (mC (.bool true))) (m2 oIsB (mCall [false, false, false] fn_can_stay (mCons (mTup (mCons (mC (.str "a")) mNil)) (mCons (mLst (mCons (mTup (mCons (mC (.str "out")) mNil)) mNil)) (mCons (mTup (mCons (mC (.str "a")) mNil)) mNil)))) (mC (.bool false))))))
def fn_law : Fn := runFn 1 12 m_law
theorem gb {K : Fg} {mg : Str → Option Value} {h : Heap} (c : He.SaysD fa fn K) (KX : K.In h) (Gn : h.Ns mainGlobals mg) : Gb mg := ⟨He.free_ok KX Gn (c.fact 28 (f := .free "len") rfl), He.free_ok KX Gn (c.fact 29 (f := .free "int") rfl), He.free_ok KX Gn (c.fact 30 (f := .free "abs") rfl), He.free_ok KX Gn (c.fact 31 (f := .free "max") rfl), He.free_ok KX Gn (c.fact 32 (f := .free "min") rfl), He.free_ok KX Gn (c.fact 33 (f := .free "list") rfl), He.free_ok KX Gn (c.fact 34 (f := .free "tuple") rfl), He.free_ok KX Gn (c.fact 35 (f := .free "set") rfl), He.free_ok KX Gn (c.fact 36 (f := .free "all") rfl), He.free_ok KX Gn (c.fact 37 (f := .free "any") rfl), He.free_ok KX Gn (c.fact 38 (f := .free "sum") rfl), He.free_ok KX Gn (c.fact 39 (f := .free "sorted") rfl), He.free_ok KX Gn (c.fact 40 (f := .free "isinstance") rfl), He.free_ok KX Gn (c.fact 41 (f := .free "range") rfl), He.free_ok KX Gn (c.fact 42 (f := .free "enumerate") rfl), He.free_ok KX Gn (c.fact 43 (f := .free "zip") rfl), He.free_ok KX Gn (c.fact 44 (f := .free "str") rfl), He.free_ok KX Gn (c.fact 45 (f := .free "bool") rfl), He.free_ok KX Gn (c.fact 46 (f := .free "dict") rfl), He.free_ok KX Gn (c.fact 47 (f := .free "repr") rfl)⟩
theorem w_is_car {P : Program} {w : World} {K : Fg} {mg : Str → Option Value} {base : Heap} {h : Heap} (c : He.SaysD fa fn K) (KX : K.In h) (Gn : h.Ns mainGlobals mg) (G : Gb mg)  : Fok ⟨K, P, w⟩ mg base 1 "is_car" fn_is_car := by
  have c_LETTERS := He.str_ok KX Gn (c.fact 48 (f := .str "LETTERS" "abcdefghijklmnopqrstuvwxyz") rfl)
  have c_MAX_LETTERS := He.int_ok KX Gn (c.fact 49 (f := .int "MAX_LETTERS" 4) rfl)
  have hm := He.glo_ok KX Gn (c.fact 0 (f := .glo "is_car") rfl)
  obtain ⟨fd, F⟩ := c.def_ 0 (d := dd "is_car" 11) rfl
  have S : FnScope (["value", "letter"] : List Str) ["value"] (dd "is_car" 11).scope := ⟨rfl, rfl, rfl, by decide +kernel, rfl, by decide +kernel, by decide +kernel⟩
  have hnd := S.nd
  have b := F.bindsN (ps := ["value"]) (fun _ _ _ _ _ _ us hl => match us, hl with | [_], _ => rfl)
  have ok : FnOk P w K mg base L2.CX0 1 (He.ga K "is_car") fd ["value"] (spI ⟨K, P, w⟩ fn_is_car) := by
    refine L2.FunD.ok (N := ["value", "letter"]) (k := 0) F S (spI_len rfl) fun cdv A outer s H vs Q E hr hsp => ⟨tS ⟨K, P, w⟩ m_is_car, ?_, body_at (np := 1) (n := 1) rfl rfl hsp⟩
    clear hsp
    unfold m_is_car; first | refine iSs_cons ?_ ?_ | refine iSs_one ?_
    all_goals walk_at "I.S"
  exact ⟨_, fd, ["value"], ok, hm, F.kp, b⟩
theorem w_is_lane {P : Program} {w : World} {K : Fg} {mg : Str → Option Value} {base : Heap} {h : Heap} (c : He.SaysD fa fn K) (KX : K.In h) (Gn : h.Ns mainGlobals mg) (G : Gb mg) (h0 : Fok ⟨K, P, w⟩ mg base 1 "is_car" fn_is_car) : Fok ⟨K, P, w⟩ mg base 2 "is_lane" fn_is_lane := by
  have hm := He.glo_ok KX Gn (c.fact 1 (f := .glo "is_lane") rfl)
  obtain ⟨fd, F⟩ := c.def_ 1 (d := dd "is_lane" 12) rfl
  have S : FnScope (["value", "car"] : List Str) ["value"] (dd "is_lane" 12).scope := ⟨rfl, rfl, rfl, by decide +kernel, rfl, by decide +kernel, by decide +kernel⟩
  have hnd := S.nd
  have b := F.bindsN (ps := ["value"]) (fun _ _ _ _ _ _ us hl => match us, hl with | [_], _ => rfl)
  have ok : FnOk P w K mg base L2.CX0 2 (He.ga K "is_lane") fd ["value"] (spI ⟨K, P, w⟩ fn_is_lane) := by
    refine L2.FunD.ok (N := ["value", "car"]) (k := 1) F S (spI_len rfl) fun cdv A outer s H vs Q E hr hsp => ⟨tS ⟨K, P, w⟩ m_is_lane, ?_, body_at (np := 1) (n := 1) rfl rfl hsp⟩
    clear hsp
    unfold m_is_lane; first | refine iSs_cons ?_ ?_ | refine iSs_one ?_
    all_goals walk_at "I.S"
  exact ⟨_, fd, ["value"], ok, hm, F.kp, b⟩
theorem w_is_arrival {P : Program} {w : World} {K : Fg} {mg : Str → Option Value} {base : Heap} {h : Heap} (c : He.SaysD fa fn K) (KX : K.In h) (Gn : h.Ns mainGlobals mg) (G : Gb mg) (h0 : Fok ⟨K, P, w⟩ mg base 1 "is_car" fn_is_car) : Fok ⟨K, P, w⟩ mg base 2 "is_arrival" fn_is_arrival := by
  have c_IN := He.str_ok KX Gn (c.fact 50 (f := .str "IN" "in") rfl)
  have hm := He.glo_ok KX Gn (c.fact 2 (f := .glo "is_arrival") rfl)
  obtain ⟨fd, F⟩ := c.def_ 2 (d := dd "is_arrival" 13) rfl
  have S : FnScope (["value"] : List Str) ["value"] (dd "is_arrival" 13).scope := ⟨rfl, rfl, rfl, by decide +kernel, rfl, by decide +kernel, by decide +kernel⟩
  have hnd := S.nd
  have b := F.bindsN (ps := ["value"]) (fun _ _ _ _ _ _ us hl => match us, hl with | [_], _ => rfl)
  have ok : FnOk P w K mg base L2.CX0 2 (He.ga K "is_arrival") fd ["value"] (spI ⟨K, P, w⟩ fn_is_arrival) := by
    refine L2.FunD.ok (N := ["value"]) (k := 1) F S (spI_len rfl) fun cdv A outer s H vs Q E hr hsp => ⟨tS ⟨K, P, w⟩ m_is_arrival, ?_, body_at (np := 1) (n := 0) rfl rfl hsp⟩
    clear hsp
    unfold m_is_arrival; first | refine iSs_cons ?_ ?_ | refine iSs_one ?_
    all_goals walk_at "I.S"
  exact ⟨_, fd, ["value"], ok, hm, F.kp, b⟩
theorem w_is_departure {P : Program} {w : World} {K : Fg} {mg : Str → Option Value} {base : Heap} {h : Heap} (c : He.SaysD fa fn K) (KX : K.In h) (Gn : h.Ns mainGlobals mg) (G : Gb mg)  : Fok ⟨K, P, w⟩ mg base 1 "is_departure" fn_is_departure := by
  have c_OUT := He.str_ok KX Gn (c.fact 51 (f := .str "OUT" "out") rfl)
  have hm := He.glo_ok KX Gn (c.fact 3 (f := .glo "is_departure") rfl)
  obtain ⟨fd, F⟩ := c.def_ 3 (d := dd "is_departure" 14) rfl
  have S : FnScope (["value"] : List Str) ["value"] (dd "is_departure" 14).scope := ⟨rfl, rfl, rfl, by decide +kernel, rfl, by decide +kernel, by decide +kernel⟩
  have hnd := S.nd
  have b := F.bindsN (ps := ["value"]) (fun _ _ _ _ _ _ us hl => match us, hl with | [_], _ => rfl)
  have ok : FnOk P w K mg base L2.CX0 1 (He.ga K "is_departure") fd ["value"] (spI ⟨K, P, w⟩ fn_is_departure) := by
    refine L2.FunD.ok (N := ["value"]) (k := 0) F S (spI_len rfl) fun cdv A outer s H vs Q E hr hsp => ⟨tS ⟨K, P, w⟩ m_is_departure, ?_, body_at (np := 1) (n := 0) rfl rfl hsp⟩
    clear hsp
    unfold m_is_departure; first | refine iSs_cons ?_ ?_ | refine iSs_one ?_
    all_goals walk_at "I.S"
  exact ⟨_, fd, ["value"], ok, hm, F.kp, b⟩
theorem w_check_lane {P : Program} {w : World} {K : Fg} {mg : Str → Option Value} {base : Heap} {h : Heap} (c : He.SaysD fa fn K) (KX : K.In h) (Gn : h.Ns mainGlobals mg) (G : Gb mg) (h0 : Fok ⟨K, P, w⟩ mg base 2 "is_lane" fn_is_lane) : Fok ⟨K, P, w⟩ mg base 3 "check_lane" fn_check_lane := by
  have hm := He.glo_ok KX Gn (c.fact 4 (f := .glo "check_lane") rfl)
  obtain ⟨fd, F⟩ := c.def_ 4 (d := dd "check_lane" 15) rfl
  have S : FnScope (["value"] : List Str) ["value"] (dd "check_lane" 15).scope := ⟨rfl, rfl, rfl, by decide +kernel, rfl, by decide +kernel, by decide +kernel⟩
  have hnd := S.nd
  have b := F.bindsN (ps := ["value"]) (fun _ _ _ _ _ _ us hl => match us, hl with | [_], _ => rfl)
  have ok : FnOk P w K mg base L2.CX0 3 (He.ga K "check_lane") fd ["value"] (spI ⟨K, P, w⟩ fn_check_lane) := by
    refine L2.FunD.ok (N := ["value"]) (k := 2) F S (spI_len rfl) fun cdv A outer s H vs Q E hr hsp => ⟨tS ⟨K, P, w⟩ m_check_lane, ?_, body_at (np := 1) (n := 0) rfl rfl hsp⟩
    clear hsp
    unfold m_check_lane; first | refine iSs_cons ?_ ?_ | refine iSs_one ?_
    all_goals walk_at "I.S"
  exact ⟨_, fd, ["value"], ok, hm, F.kp, b⟩
theorem w_is_log_for {P : Program} {w : World} {K : Fg} {mg : Str → Option Value} {base : Heap} {h : Heap} (c : He.SaysD fa fn K) (KX : K.In h) (Gn : h.Ns mainGlobals mg) (G : Gb mg) (h0 : Fok ⟨K, P, w⟩ mg base 2 "is_arrival" fn_is_arrival) (h1 : Fok ⟨K, P, w⟩ mg base 1 "is_departure" fn_is_departure) : Fok ⟨K, P, w⟩ mg base 3 "is_log_for" fn_is_log_for := by
  have hm := He.glo_ok KX Gn (c.fact 5 (f := .glo "is_log_for") rfl)
  obtain ⟨fd, F⟩ := c.def_ 5 (d := dd "is_log_for" 16) rfl
  have S : FnScope (["start", "value", "used", "size", "event"] : List Str) ["start", "value"] (dd "is_log_for" 16).scope := ⟨rfl, rfl, rfl, by decide +kernel, rfl, by decide +kernel, by decide +kernel⟩
  have hnd := S.nd
  have b := F.bindsN (ps := ["start", "value"]) (fun _ _ _ _ _ _ us hl => match us, hl with | [_, _], _ => rfl)
  have ok : FnOk P w K mg base L2.CX0 3 (He.ga K "is_log_for") fd ["start", "value"] (spI ⟨K, P, w⟩ fn_is_log_for) := by
    refine L2.FunD.ok (N := ["start", "value", "used", "size", "event"]) (k := 2) F S (spI_len rfl) fun cdv A outer s H vs Q E hr hsp => ⟨tS ⟨K, P, w⟩ m_is_log_for, ?_, body_at (np := 2) (n := 3) rfl rfl hsp⟩
    clear hsp
    unfold m_is_log_for; first | refine iSs_cons ?_ ?_ | refine iSs_one ?_
    all_goals walk_at "I.S"
  exact ⟨_, fd, ["start", "value"], ok, hm, F.kp, b⟩
theorem w_check_log {P : Program} {w : World} {K : Fg} {mg : Str → Option Value} {base : Heap} {h : Heap} (c : He.SaysD fa fn K) (KX : K.In h) (Gn : h.Ns mainGlobals mg) (G : Gb mg) (h0 : Fok ⟨K, P, w⟩ mg base 3 "check_lane" fn_check_lane) (h1 : Fok ⟨K, P, w⟩ mg base 3 "is_log_for" fn_is_log_for) : Fok ⟨K, P, w⟩ mg base 4 "check_log" fn_check_log := by
  have hm := He.glo_ok KX Gn (c.fact 6 (f := .glo "check_log") rfl)
  obtain ⟨fd, F⟩ := c.def_ 6 (d := dd "check_log" 17) rfl
  have S : FnScope (["start", "log"] : List Str) ["start", "log"] (dd "check_log" 17).scope := ⟨rfl, rfl, rfl, by decide +kernel, rfl, by decide +kernel, by decide +kernel⟩
  have hnd := S.nd
  have b := F.bindsN (ps := ["start", "log"]) (fun _ _ _ _ _ _ us hl => match us, hl with | [_, _], _ => rfl)
  have ok : FnOk P w K mg base L2.CX0 4 (He.ga K "check_log") fd ["start", "log"] (spI ⟨K, P, w⟩ fn_check_log) := by
    refine L2.FunD.ok (N := ["start", "log"]) (k := 3) F S (spI_len rfl) fun cdv A outer s H vs Q E hr hsp => ⟨tS ⟨K, P, w⟩ m_check_log, ?_, body_at (np := 2) (n := 0) rfl rfl hsp⟩
    clear hsp
    unfold m_check_log; first | refine iSs_cons ?_ ?_ | refine iSs_one ?_
    all_goals walk_at "I.S"
  exact ⟨_, fd, ["start", "log"], ok, hm, F.kp, b⟩
theorem w_count_sizes {P : Program} {w : World} {K : Fg} {mg : Str → Option Value} {base : Heap} {h : Heap} (c : He.SaysD fa fn K) (KX : K.In h) (Gn : h.Ns mainGlobals mg) (G : Gb mg)  : Fok ⟨K, P, w⟩ mg base 1 "count_sizes" fn_count_sizes := by
  have c_IN := He.str_ok KX Gn (c.fact 50 (f := .str "IN" "in") rfl)
  have hm := He.glo_ok KX Gn (c.fact 7 (f := .glo "count_sizes") rfl)
  obtain ⟨fd, F⟩ := c.def_ 7 (d := dd "count_sizes" 18) rfl
  have S : FnScope (["start", "log", "found", "event"] : List Str) ["start", "log"] (dd "count_sizes" 18).scope := ⟨rfl, rfl, rfl, by decide +kernel, rfl, by decide +kernel, by decide +kernel⟩
  have hnd := S.nd
  have b := F.bindsN (ps := ["start", "log"]) (fun _ _ _ _ _ _ us hl => match us, hl with | [_, _], _ => rfl)
  have ok : FnOk P w K mg base L2.CX0 1 (He.ga K "count_sizes") fd ["start", "log"] (spI ⟨K, P, w⟩ fn_count_sizes) := by
    refine L2.FunD.ok (N := ["start", "log", "found", "event"]) (k := 0) F S (spI_len rfl) fun cdv A outer s H vs Q E hr hsp => ⟨tS ⟨K, P, w⟩ m_count_sizes, ?_, body_at (np := 2) (n := 2) rfl rfl hsp⟩
    clear hsp
    unfold m_count_sizes; first | refine iSs_cons ?_ ?_ | refine iSs_one ?_
    all_goals walk_at "I.S"
  exact ⟨_, fd, ["start", "log"], ok, hm, F.kp, b⟩
theorem w_car_numbers {P : Program} {w : World} {K : Fg} {mg : Str → Option Value} {base : Heap} {h : Heap} (c : He.SaysD fa fn K) (KX : K.In h) (Gn : h.Ns mainGlobals mg) (G : Gb mg)  : Fok ⟨K, P, w⟩ mg base 1 "car_numbers" fn_car_numbers := by
  have c_IN := He.str_ok KX Gn (c.fact 50 (f := .str "IN" "in") rfl)
  have hm := He.glo_ok KX Gn (c.fact 8 (f := .glo "car_numbers") rfl)
  obtain ⟨fd, F⟩ := c.def_ 8 (d := dd "car_numbers" 19) rfl
  have S : FnScope (["start", "log", "cars", "number", "car", "event"] : List Str) ["start", "log"] (dd "car_numbers" 19).scope := ⟨rfl, rfl, rfl, by decide +kernel, rfl, by decide +kernel, by decide +kernel⟩
  have hnd := S.nd
  have b := F.bindsN (ps := ["start", "log"]) (fun _ _ _ _ _ _ us hl => match us, hl with | [_, _], _ => rfl)
  have ok : FnOk P w K mg base L2.CX0 1 (He.ga K "car_numbers") fd ["start", "log"] (spI ⟨K, P, w⟩ fn_car_numbers) := by
    refine L2.FunD.ok (N := ["start", "log", "cars", "number", "car", "event"]) (k := 0) F S (spI_len rfl) fun cdv A outer s H vs Q E hr hsp => ⟨tS ⟨K, P, w⟩ m_car_numbers, ?_, body_at (np := 2) (n := 4) rfl rfl hsp⟩
    clear hsp
    unfold m_car_numbers; first | refine iSs_cons ?_ ?_ | refine iSs_one ?_
    all_goals walk_at "I.S"
  exact ⟨_, fd, ["start", "log"], ok, hm, F.kp, b⟩
theorem w_check_cars {P : Program} {w : World} {K : Fg} {mg : Str → Option Value} {base : Heap} {h : Heap} (c : He.SaysD fa fn K) (KX : K.In h) (Gn : h.Ns mainGlobals mg) (G : Gb mg) (h0 : Fok ⟨K, P, w⟩ mg base 1 "car_numbers" fn_car_numbers) (h1 : Fok ⟨K, P, w⟩ mg base 1 "is_car" fn_is_car) : Fok ⟨K, P, w⟩ mg base 2 "check_cars" fn_check_cars := by
  have hm := He.glo_ok KX Gn (c.fact 9 (f := .glo "check_cars") rfl)
  obtain ⟨fd, F⟩ := c.def_ 9 (d := dd "check_cars" 21) rfl
  have S : FnScope (["start", "log", "cars", "known", "car"] : List Str) ["start", "log", "cars"] (dd "check_cars" 21).scope := ⟨rfl, rfl, rfl, by decide +kernel, rfl, by decide +kernel, by decide +kernel⟩
  have hnd := S.nd
  have b := F.bindsN (ps := ["start", "log", "cars"]) (fun _ _ _ _ _ _ us hl => match us, hl with | [_, _, _], _ => rfl)
  have ok : FnOk P w K mg base L2.CX0 2 (He.ga K "check_cars") fd ["start", "log", "cars"] (spI ⟨K, P, w⟩ fn_check_cars) := by
    refine L2.FunD.ok (N := ["start", "log", "cars", "known", "car"]) (k := 1) F S (spI_len rfl) fun cdv A outer s H vs Q E hr hsp => ⟨tS ⟨K, P, w⟩ m_check_cars, ?_, body_at (np := 3) (n := 2) rfl rfl hsp⟩
    clear hsp
    unfold m_check_cars; first | refine iSs_cons ?_ ?_ | refine iSs_one ?_
    all_goals walk_at "I.S"
  exact ⟨_, fd, ["start", "log", "cars"], ok, hm, F.kp, b⟩
theorem w_check_all {P : Program} {w : World} {K : Fg} {mg : Str → Option Value} {base : Heap} {h : Heap} (c : He.SaysD fa fn K) (KX : K.In h) (Gn : h.Ns mainGlobals mg) (G : Gb mg) (h0 : Fok ⟨K, P, w⟩ mg base 3 "check_lane" fn_check_lane) (h1 : Fok ⟨K, P, w⟩ mg base 4 "check_log" fn_check_log) (h2 : Fok ⟨K, P, w⟩ mg base 2 "check_cars" fn_check_cars) : Fok ⟨K, P, w⟩ mg base 5 "check_all" fn_check_all := by
  have hm := He.glo_ok KX Gn (c.fact 10 (f := .glo "check_all") rfl)
  obtain ⟨fd, F⟩ := c.def_ 10 (d := dd "check_all" 22) rfl
  have S : FnScope (["start", "log", "cars"] : List Str) ["start", "log", "cars"] (dd "check_all" 22).scope := ⟨rfl, rfl, rfl, by decide +kernel, rfl, by decide +kernel, by decide +kernel⟩
  have hnd := S.nd
  have b := F.bindsN (ps := ["start", "log", "cars"]) (fun _ _ _ _ _ _ us hl => match us, hl with | [_, _, _], _ => rfl)
  have ok : FnOk P w K mg base L2.CX0 5 (He.ga K "check_all") fd ["start", "log", "cars"] (spI ⟨K, P, w⟩ fn_check_all) := by
    refine L2.FunD.ok (N := ["start", "log", "cars"]) (k := 4) F S (spI_len rfl) fun cdv A outer s H vs Q E hr hsp => ⟨tS ⟨K, P, w⟩ m_check_all, ?_, body_at (np := 3) (n := 0) rfl rfl hsp⟩
    clear hsp
    unfold m_check_all; first | refine iSs_cons ?_ ?_ | refine iSs_one ?_
    all_goals walk_at "I.S"
  exact ⟨_, fd, ["start", "log", "cars"], ok, hm, F.kp, b⟩
theorem w_count_departures {P : Program} {w : World} {K : Fg} {mg : Str → Option Value} {base : Heap} {h : Heap} (c : He.SaysD fa fn K) (KX : K.In h) (Gn : h.Ns mainGlobals mg) (G : Gb mg)  : Fok ⟨K, P, w⟩ mg base 1 "count_departures" fn_count_departures := by
  have hm := He.glo_ok KX Gn (c.fact 11 (f := .glo "count_departures") rfl)
  obtain ⟨fd, F⟩ := c.def_ 11 (d := dd "count_departures" 23) rfl
  have S : FnScope (["log", "counts", "event"] : List Str) ["log"] (dd "count_departures" 23).scope := ⟨rfl, rfl, rfl, by decide +kernel, rfl, by decide +kernel, by decide +kernel⟩
  have hnd := S.nd
  have b := F.bindsN (ps := ["log"]) (fun _ _ _ _ _ _ us hl => match us, hl with | [_], _ => rfl)
  have ok : FnOk P w K mg base L2.CX0 1 (He.ga K "count_departures") fd ["log"] (spI ⟨K, P, w⟩ fn_count_departures) := by
    refine L2.FunD.ok (N := ["log", "counts", "event"]) (k := 0) F S (spI_len rfl) fun cdv A outer s H vs Q E hr hsp => ⟨tS ⟨K, P, w⟩ m_count_departures, ?_, body_at (np := 1) (n := 2) rfl rfl hsp⟩
    clear hsp
    unfold m_count_departures; first | refine iSs_cons ?_ ?_ | refine iSs_one ?_
    all_goals walk_at "I.S"
  exact ⟨_, fd, ["log"], ok, hm, F.kp, b⟩
theorem w_arriving_positions {P : Program} {w : World} {K : Fg} {mg : Str → Option Value} {base : Heap} {h : Heap} (c : He.SaysD fa fn K) (KX : K.In h) (Gn : h.Ns mainGlobals mg) (G : Gb mg)  : Fok ⟨K, P, w⟩ mg base 1 "arriving_positions" fn_arriving_positions := by
  have hm := He.glo_ok KX Gn (c.fact 12 (f := .glo "arriving_positions") rfl)
  obtain ⟨fd, F⟩ := c.def_ 12 (d := dd "arriving_positions" 24) rfl
  have S : FnScope (["log", "cars", "position", "event"] : List Str) ["log", "cars"] (dd "arriving_positions" 24).scope := ⟨rfl, rfl, rfl, by decide +kernel, rfl, by decide +kernel, by decide +kernel⟩
  have hnd := S.nd
  have b := F.bindsN (ps := ["log", "cars"]) (fun _ _ _ _ _ _ us hl => match us, hl with | [_, _], _ => rfl)
  have ok : FnOk P w K mg base L2.CX0 1 (He.ga K "arriving_positions") fd ["log", "cars"] (spI ⟨K, P, w⟩ fn_arriving_positions) := by
    refine L2.FunD.ok (N := ["log", "cars", "position", "event"]) (k := 0) F S (spI_len rfl) fun cdv A outer s H vs Q E hr hsp => ⟨tS ⟨K, P, w⟩ m_arriving_positions, ?_, body_at (np := 2) (n := 2) rfl rfl hsp⟩
    clear hsp
    unfold m_arriving_positions; first | refine iSs_cons ?_ ?_ | refine iSs_one ?_
    all_goals walk_at "I.S"
  exact ⟨_, fd, ["log", "cars"], ok, hm, F.kp, b⟩
theorem w_first_shortage {P : Program} {w : World} {K : Fg} {mg : Str → Option Value} {base : Heap} {h : Heap} (c : He.SaysD fa fn K) (KX : K.In h) (Gn : h.Ns mainGlobals mg) (G : Gb mg) (h0 : Fok ⟨K, P, w⟩ mg base 1 "count_sizes" fn_count_sizes) : Fok ⟨K, P, w⟩ mg base 2 "first_shortage" fn_first_shortage := by
  have hm := He.glo_ok KX Gn (c.fact 13 (f := .glo "first_shortage") rfl)
  obtain ⟨fd, F⟩ := c.def_ 13 (d := dd "first_shortage" 25) rfl
  have S : FnScope (["start", "log", "cars", "stay", "moment", "size", "car"] : List Str) ["start", "log", "cars"] (dd "first_shortage" 25).scope := ⟨rfl, rfl, rfl, by decide +kernel, rfl, by decide +kernel, by decide +kernel⟩
  have hnd := S.nd
  have b := F.bindsN (ps := ["start", "log", "cars"]) (fun _ _ _ _ _ _ us hl => match us, hl with | [_, _, _], _ => rfl)
  have ok : FnOk P w K mg base L2.CX0 2 (He.ga K "first_shortage") fd ["start", "log", "cars"] (spI ⟨K, P, w⟩ fn_first_shortage) := by
    refine L2.FunD.ok (N := ["start", "log", "cars", "stay", "moment", "size", "car"]) (k := 1) F S (spI_len rfl) fun cdv A outer s H vs Q E hr hsp => ⟨tS ⟨K, P, w⟩ m_first_shortage, ?_, body_at (np := 3) (n := 4) rfl rfl hsp⟩
    clear hsp
    unfold m_first_shortage; first | refine iSs_cons ?_ ?_ | refine iSs_one ?_
    all_goals walk_at "I.S"
  exact ⟨_, fd, ["start", "log", "cars"], ok, hm, F.kp, b⟩
theorem w_set_reason {P : Program} {w : World} {K : Fg} {mg : Str → Option Value} {base : Heap} {h : Heap} (c : He.SaysD fa fn K) (KX : K.In h) (Gn : h.Ns mainGlobals mg) (G : Gb mg) (h0 : Fok ⟨K, P, w⟩ mg base 2 "first_shortage" fn_first_shortage) (h1 : Fok ⟨K, P, w⟩ mg base 1 "arriving_positions" fn_arriving_positions) (h2 : Fok ⟨K, P, w⟩ mg base 1 "count_sizes" fn_count_sizes) (h3 : Fok ⟨K, P, w⟩ mg base 1 "count_departures" fn_count_departures) : Fok ⟨K, P, w⟩ mg base 3 "set_reason" fn_set_reason := by
  have hm := He.glo_ok KX Gn (c.fact 14 (f := .glo "set_reason") rfl)
  obtain ⟨fd, F⟩ := c.def_ 14 (d := dd "set_reason" 26) rfl
  have S : FnScope (["start", "log", "cars", "total", "moment", "places", "positions", "car", "left", "right", "departures", "place"] : List Str) ["start", "log", "cars"] (dd "set_reason" 26).scope := ⟨rfl, rfl, rfl, by decide +kernel, rfl, by decide +kernel, by decide +kernel⟩
  have hnd := S.nd
  have b := F.bindsN (ps := ["start", "log", "cars"]) (fun _ _ _ _ _ _ us hl => match us, hl with | [_, _, _], _ => rfl)
  have ok : FnOk P w K mg base L2.CX0 3 (He.ga K "set_reason") fd ["start", "log", "cars"] (spI ⟨K, P, w⟩ fn_set_reason) := by
    refine L2.FunD.ok (N := ["start", "log", "cars", "total", "moment", "places", "positions", "car", "left", "right", "departures", "place"]) (k := 2) F S (spI_len rfl) fun cdv A outer s H vs Q E hr hsp => ⟨tS ⟨K, P, w⟩ m_set_reason, ?_, body_at (np := 3) (n := 9) rfl rfl hsp⟩
    clear hsp
    unfold m_set_reason; first | refine iSs_cons ?_ ?_ | refine iSs_one ?_
    all_goals walk_at "I.S"
  exact ⟨_, fd, ["start", "log", "cars"], ok, hm, F.kp, b⟩
theorem w_can_stay {P : Program} {w : World} {K : Fg} {mg : Str → Option Value} {base : Heap} {h : Heap} (c : He.SaysD fa fn K) (KX : K.In h) (Gn : h.Ns mainGlobals mg) (G : Gb mg) (h0 : Fok ⟨K, P, w⟩ mg base 5 "check_all" fn_check_all) (h1 : Fok ⟨K, P, w⟩ mg base 3 "set_reason" fn_set_reason) : Fok ⟨K, P, w⟩ mg base 6 "can_stay" fn_can_stay ∧ FokK ⟨K, P, w⟩ mg base 6 "can_stay" ["cars", "log", "start"] [2, 1, 0] fn_can_stay := by
  have hm := He.glo_ok KX Gn (c.fact 15 (f := .glo "can_stay") rfl)
  obtain ⟨fd, F⟩ := c.def_ 15 (d := dd "can_stay" 27) rfl
  have S : FnScope (["start", "log", "cars"] : List Str) ["start", "log", "cars"] (dd "can_stay" 27).scope := ⟨rfl, rfl, rfl, by decide +kernel, rfl, by decide +kernel, by decide +kernel⟩
  have hnd := S.nd
  have b := F.bindsN (ps := ["start", "log", "cars"]) (fun _ _ _ _ _ _ us hl => match us, hl with | [_, _, _], _ => rfl)
  have ok : FnOk P w K mg base L2.CX0 6 (He.ga K "can_stay") fd ["start", "log", "cars"] (spI ⟨K, P, w⟩ fn_can_stay) := by
    refine L2.FunD.ok (N := ["start", "log", "cars"]) (k := 5) F S (spI_len rfl) fun cdv A outer s H vs Q E hr hsp => ⟨tS ⟨K, P, w⟩ m_can_stay, ?_, body_at (np := 3) (n := 0) rfl rfl hsp⟩
    clear hsp
    unfold m_can_stay; first | refine iSs_cons ?_ ?_ | refine iSs_one ?_
    all_goals walk_at "I.S"
  exact ⟨⟨_, fd, ["start", "log", "cars"], ok, hm, F.kp, b⟩, ⟨_, fd, ["start", "log", "cars"], ok, hm, F.kp, kbn F (fun _ _ _ _ _ _ ws hl => match ws, hl with | [_, _, _], _ => rfl)⟩⟩
theorem w_why_cannot_stay {P : Program} {w : World} {K : Fg} {mg : Str → Option Value} {base : Heap} {h : Heap} (c : He.SaysD fa fn K) (KX : K.In h) (Gn : h.Ns mainGlobals mg) (G : Gb mg) (h0 : Fok ⟨K, P, w⟩ mg base 5 "check_all" fn_check_all) (h1 : Fok ⟨K, P, w⟩ mg base 3 "set_reason" fn_set_reason) : Fok ⟨K, P, w⟩ mg base 6 "why_cannot_stay" fn_why_cannot_stay := by
  have hm := He.glo_ok KX Gn (c.fact 16 (f := .glo "why_cannot_stay") rfl)
  obtain ⟨fd, F⟩ := c.def_ 16 (d := dd "why_cannot_stay" 28) rfl
  have S : FnScope (["start", "log", "cars"] : List Str) ["start", "log", "cars"] (dd "why_cannot_stay" 28).scope := ⟨rfl, rfl, rfl, by decide +kernel, rfl, by decide +kernel, by decide +kernel⟩
  have hnd := S.nd
  have b := F.bindsN (ps := ["start", "log", "cars"]) (fun _ _ _ _ _ _ us hl => match us, hl with | [_, _, _], _ => rfl)
  have ok : FnOk P w K mg base L2.CX0 6 (He.ga K "why_cannot_stay") fd ["start", "log", "cars"] (spI ⟨K, P, w⟩ fn_why_cannot_stay) := by
    refine L2.FunD.ok (N := ["start", "log", "cars"]) (k := 5) F S (spI_len rfl) fun cdv A outer s H vs Q E hr hsp => ⟨tS ⟨K, P, w⟩ m_why_cannot_stay, ?_, body_at (np := 3) (n := 0) rfl rfl hsp⟩
    clear hsp
    unfold m_why_cannot_stay; first | refine iSs_cons ?_ ?_ | refine iSs_one ?_
    all_goals walk_at "I.S"
  exact ⟨_, fd, ["start", "log", "cars"], ok, hm, F.kp, b⟩
theorem w__law_cell_at {P : Program} {w : World} {K : Fg} {mg : Str → Option Value} {base : Heap} {h : Heap} (c : He.SaysD fa fn K) (KX : K.In h) (Gn : h.Ns mainGlobals mg) (G : Gb mg)  : Fok ⟨K, P, w⟩ mg base 1 "_law_cell_at" fn__law_cell_at := by
  have hm := He.glo_ok KX Gn (c.fact 17 (f := .glo "_law_cell_at") rfl)
  obtain ⟨fd, F⟩ := c.def_ 17 (d := dd "_law_cell_at" 30) rfl
  have S : FnScope (["script", "k"] : List Str) ["script", "k"] (dd "_law_cell_at" 30).scope := ⟨rfl, rfl, rfl, by decide +kernel, rfl, by decide +kernel, by decide +kernel⟩
  have hnd := S.nd
  have b := F.bindsN (ps := ["script", "k"]) (fun _ _ _ _ _ _ us hl => match us, hl with | [_, _], _ => rfl)
  have ok : FnOk P w K mg base L2.CX0 1 (He.ga K "_law_cell_at") fd ["script", "k"] (spI ⟨K, P, w⟩ fn__law_cell_at) := by
    refine L2.FunD.ok (N := ["script", "k"]) (k := 0) F S (spI_len rfl) fun cdv A outer s H vs Q E hr hsp => ⟨tS ⟨K, P, w⟩ m__law_cell_at, ?_, body_at (np := 2) (n := 0) rfl rfl hsp⟩
    clear hsp
    unfold m__law_cell_at; first | refine iSs_cons ?_ ?_ | refine iSs_one ?_
    all_goals walk_at "I.S"
  exact ⟨_, fd, ["script", "k"], ok, hm, F.kp, b⟩
theorem w__law_bag {P : Program} {w : World} {K : Fg} {mg : Str → Option Value} {base : Heap} {h : Heap} (c : He.SaysD fa fn K) (KX : K.In h) (Gn : h.Ns mainGlobals mg) (G : Gb mg)  : Fok ⟨K, P, w⟩ mg base 1 "_law_bag" fn__law_bag := by
  have hm := He.glo_ok KX Gn (c.fact 18 (f := .glo "_law_bag") rfl)
  obtain ⟨fd, F⟩ := c.def_ 18 (d := dd "_law_bag" 31) rfl
  have S : FnScope (["cell", "k"] : List Str) ["cell", "k"] (dd "_law_bag" 31).scope := ⟨rfl, rfl, rfl, by decide +kernel, rfl, by decide +kernel, by decide +kernel⟩
  have hnd := S.nd
  have b := F.bindsN (ps := ["cell", "k"]) (fun _ _ _ _ _ _ us hl => match us, hl with | [_, _], _ => rfl)
  have ok : FnOk P w K mg base L2.CX0 1 (He.ga K "_law_bag") fd ["cell", "k"] (spI ⟨K, P, w⟩ fn__law_bag) := by
    refine L2.FunD.ok (N := ["cell", "k"]) (k := 0) F S (spI_len rfl) fun cdv A outer s H vs Q E hr hsp => ⟨tS ⟨K, P, w⟩ m__law_bag, ?_, body_at (np := 2) (n := 0) rfl rfl hsp⟩
    clear hsp
    unfold m__law_bag; first | refine iSs_cons ?_ ?_ | refine iSs_one ?_
    all_goals walk_at "I.S"
  exact ⟨_, fd, ["cell", "k"], ok, hm, F.kp, b⟩
theorem w__law_take {P : Program} {w : World} {K : Fg} {mg : Str → Option Value} {base : Heap} {h : Heap} (c : He.SaysD fa fn K) (KX : K.In h) (Gn : h.Ns mainGlobals mg) (G : Gb mg)  : Fok ⟨K, P, w⟩ mg base 1 "_law_take" fn__law_take := by
  have hm := He.glo_ok KX Gn (c.fact 19 (f := .glo "_law_take") rfl)
  obtain ⟨fd, F⟩ := c.def_ 19 (d := dd "_law_take" 32) rfl
  have S : FnScope (["bag", "limit", "mixed", "found"] : List Str) ["bag", "limit"] (dd "_law_take" 32).scope := ⟨rfl, rfl, rfl, by decide +kernel, rfl, by decide +kernel, by decide +kernel⟩
  have hnd := S.nd
  have b := F.bindsN (ps := ["bag", "limit"]) (fun _ _ _ _ _ _ us hl => match us, hl with | [_, _], _ => rfl)
  have ok : FnOk P w K mg base L2.CX0 1 (He.ga K "_law_take") fd ["bag", "limit"] (spI ⟨K, P, w⟩ fn__law_take) := by
    refine L2.FunD.ok (N := ["bag", "limit", "mixed", "found"]) (k := 0) F S (spI_len rfl) fun cdv A outer s H vs Q E hr hsp => ⟨tS ⟨K, P, w⟩ m__law_take, ?_, body_at (np := 2) (n := 2) rfl rfl hsp⟩
    clear hsp
    unfold m__law_take; first | refine iSs_cons ?_ ?_ | refine iSs_one ?_
    all_goals walk_at "I.S"
  exact ⟨_, fd, ["bag", "limit"], ok, hm, F.kp, b⟩
theorem w__law_names {P : Program} {w : World} {K : Fg} {mg : Str → Option Value} {base : Heap} {h : Heap} (c : He.SaysD fa fn K) (KX : K.In h) (Gn : h.Ns mainGlobals mg) (G : Gb mg) (h0 : Fok ⟨K, P, w⟩ mg base 1 "_law_take" fn__law_take) : Fok ⟨K, P, w⟩ mg base 2 "_law_names" fn__law_names := by
  have hm := He.glo_ok KX Gn (c.fact 20 (f := .glo "_law_names") rfl)
  obtain ⟨fd, F⟩ := c.def_ 20 (d := dd "_law_names" 33) rfl
  have S : FnScope (["bag", "many", "pool", "sign", "k", "more"] : List Str) ["bag", "many"] (dd "_law_names" 33).scope := ⟨rfl, rfl, rfl, by decide +kernel, rfl, by decide +kernel, by decide +kernel⟩
  have hnd := S.nd
  have b := F.bindsN (ps := ["bag", "many"]) (fun _ _ _ _ _ _ us hl => match us, hl with | [_, _], _ => rfl)
  have ok : FnOk P w K mg base L2.CX0 2 (He.ga K "_law_names") fd ["bag", "many"] (spI ⟨K, P, w⟩ fn__law_names) := by
    refine L2.FunD.ok (N := ["bag", "many", "pool", "sign", "k", "more"]) (k := 1) F S (spI_len rfl) fun cdv A outer s H vs Q E hr hsp => ⟨tS ⟨K, P, w⟩ m__law_names, ?_, body_at (np := 2) (n := 4) rfl rfl hsp⟩
    clear hsp
    unfold m__law_names; first | refine iSs_cons ?_ ?_ | refine iSs_one ?_
    all_goals walk_at "I.S"
  exact ⟨_, fd, ["bag", "many"], ok, hm, F.kp, b⟩
theorem w__law_built {P : Program} {w : World} {K : Fg} {mg : Str → Option Value} {base : Heap} {h : Heap} (c : He.SaysD fa fn K) (KX : K.In h) (Gn : h.Ns mainGlobals mg) (G : Gb mg) (h0 : Fok ⟨K, P, w⟩ mg base 2 "_law_names" fn__law_names) (h1 : Fok ⟨K, P, w⟩ mg base 1 "_law_take" fn__law_take) : Fok ⟨K, P, w⟩ mg base 3 "_law_built" fn__law_built := by
  have hm := He.glo_ok KX Gn (c.fact 21 (f := .glo "_law_built") rfl)
  obtain ⟨fd, F⟩ := c.def_ 21 (d := dd "_law_built" 34) rfl
  have S : FnScope (["bag", "widest", "most", "names", "size", "lean", "entries", "k", "initial", "fresh", "way", "departs"] : List Str) ["bag", "widest", "most"] (dd "_law_built" 34).scope := ⟨rfl, rfl, rfl, by decide +kernel, rfl, by decide +kernel, by decide +kernel⟩
  have hnd := S.nd
  have b := F.bindsN (ps := ["bag", "widest", "most"]) (fun _ _ _ _ _ _ us hl => match us, hl with | [_, _, _], _ => rfl)
  have ok : FnOk P w K mg base L2.CX0 3 (He.ga K "_law_built") fd ["bag", "widest", "most"] (spI ⟨K, P, w⟩ fn__law_built) := by
    refine L2.FunD.ok (N := ["bag", "widest", "most", "names", "size", "lean", "entries", "k", "initial", "fresh", "way", "departs"]) (k := 2) F S (spI_len rfl) fun cdv A outer s H vs Q E hr hsp => ⟨tS ⟨K, P, w⟩ m__law_built, ?_, body_at (np := 3) (n := 9) rfl rfl hsp⟩
    clear hsp
    unfold m__law_built; first | refine iSs_cons ?_ ?_ | refine iSs_one ?_
    all_goals walk_at "I.S"
  exact ⟨_, fd, ["bag", "widest", "most"], ok, hm, F.kp, b⟩
theorem w__law_step {P : Program} {w : World} {K : Fg} {mg : Str → Option Value} {base : Heap} {h : Heap} (c : He.SaysD fa fn K) (KX : K.In h) (Gn : h.Ns mainGlobals mg) (G : Gb mg)  : Fok ⟨K, P, w⟩ mg base 1 "_law_step" fn__law_step := by
  have hm := He.glo_ok KX Gn (c.fact 22 (f := .glo "_law_step") rfl)
  obtain ⟨fd, F⟩ := c.def_ 22 (d := dd "_law_step" 35) rfl
  have S : FnScope (["lines", "entry", "found", "line"] : List Str) ["lines", "entry"] (dd "_law_step" 35).scope := ⟨rfl, rfl, rfl, by decide +kernel, rfl, by decide +kernel, by decide +kernel⟩
  have hnd := S.nd
  have b := F.bindsN (ps := ["lines", "entry"]) (fun _ _ _ _ _ _ us hl => match us, hl with | [_, _], _ => rfl)
  have ok : FnOk P w K mg base L2.CX0 1 (He.ga K "_law_step") fd ["lines", "entry"] (spI ⟨K, P, w⟩ fn__law_step) := by
    refine L2.FunD.ok (N := ["lines", "entry", "found", "line"]) (k := 0) F S (spI_len rfl) fun cdv A outer s H vs Q E hr hsp => ⟨tS ⟨K, P, w⟩ m__law_step, ?_, body_at (np := 2) (n := 2) rfl rfl hsp⟩
    clear hsp
    unfold m__law_step; first | refine iSs_cons ?_ ?_ | refine iSs_one ?_
    all_goals walk_at "I.S"
  exact ⟨_, fd, ["lines", "entry"], ok, hm, F.kp, b⟩
theorem w__law_few {P : Program} {w : World} {K : Fg} {mg : Str → Option Value} {base : Heap} {h : Heap} (c : He.SaysD fa fn K) (KX : K.In h) (Gn : h.Ns mainGlobals mg) (G : Gb mg) (h0 : Fok ⟨K, P, w⟩ mg base 3 "_law_built" fn__law_built) (h1 : Fok ⟨K, P, w⟩ mg base 1 "_law_step" fn__law_step) : Fok ⟨K, P, w⟩ mg base 4 "_law_few" fn__law_few := by
  have hm := He.glo_ok KX Gn (c.fact 23 (f := .glo "_law_few") rfl)
  obtain ⟨fd, F⟩ := c.def_ 23 (d := dd "_law_few" 36) rfl
  have S : FnScope (["bag", "widest", "most", "bound", "lines", "k", "initial", "entries", "more"] : List Str) ["bag", "widest", "most", "bound"] (dd "_law_few" 36).scope := ⟨rfl, rfl, rfl, by decide +kernel, rfl, by decide +kernel, by decide +kernel⟩
  have hnd := S.nd
  have b := F.bindsN (ps := ["bag", "widest", "most", "bound"]) (fun _ _ _ _ _ _ us hl => match us, hl with | [_, _, _, _], _ => rfl)
  have ok : FnOk P w K mg base L2.CX0 4 (He.ga K "_law_few") fd ["bag", "widest", "most", "bound"] (spI ⟨K, P, w⟩ fn__law_few) := by
    refine L2.FunD.ok (N := ["bag", "widest", "most", "bound", "lines", "k", "initial", "entries", "more"]) (k := 3) F S (spI_len rfl) fun cdv A outer s H vs Q E hr hsp => ⟨tS ⟨K, P, w⟩ m__law_few, ?_, body_at (np := 4) (n := 5) rfl rfl hsp⟩
    clear hsp
    unfold m__law_few; first | refine iSs_cons ?_ ?_ | refine iSs_one ?_
    all_goals walk_at "I.S"
  exact ⟨_, fd, ["bag", "widest", "most", "bound"], ok, hm, F.kp, b⟩
theorem w__law_folk {P : Program} {w : World} {K : Fg} {mg : Str → Option Value} {base : Heap} {h : Heap} (c : He.SaysD fa fn K) (KX : K.In h) (Gn : h.Ns mainGlobals mg) (G : Gb mg)  : Fok ⟨K, P, w⟩ mg base 1 "_law_folk" fn__law_folk := by
  have hm := He.glo_ok KX Gn (c.fact 24 (f := .glo "_law_folk") rfl)
  obtain ⟨fd, F⟩ := c.def_ 24 (d := dd "_law_folk" 37) rfl
  have S : FnScope (["initial", "entries", "entry"] : List Str) ["initial", "entries"] (dd "_law_folk" 37).scope := ⟨rfl, rfl, rfl, by decide +kernel, rfl, by decide +kernel, by decide +kernel⟩
  have hnd := S.nd
  have b := F.bindsN (ps := ["initial", "entries"]) (fun _ _ _ _ _ _ us hl => match us, hl with | [_, _], _ => rfl)
  have ok : FnOk P w K mg base L2.CX0 1 (He.ga K "_law_folk") fd ["initial", "entries"] (spI ⟨K, P, w⟩ fn__law_folk) := by
    refine L2.FunD.ok (N := ["initial", "entries", "entry"]) (k := 0) F S (spI_len rfl) fun cdv A outer s H vs Q E hr hsp => ⟨tS ⟨K, P, w⟩ m__law_folk, ?_, body_at (np := 2) (n := 1) rfl rfl hsp⟩
    clear hsp
    unfold m__law_folk; first | refine iSs_cons ?_ ?_ | refine iSs_one ?_
    all_goals walk_at "I.S"
  exact ⟨_, fd, ["initial", "entries"], ok, hm, F.kp, b⟩
theorem w__law_set {P : Program} {w : World} {K : Fg} {mg : Str → Option Value} {base : Heap} {h : Heap} (c : He.SaysD fa fn K) (KX : K.In h) (Gn : h.Ns mainGlobals mg) (G : Gb mg) (h0 : Fok ⟨K, P, w⟩ mg base 1 "_law_take" fn__law_take) : Fok ⟨K, P, w⟩ mg base 2 "_law_set" fn__law_set := by
  have hm := He.glo_ok KX Gn (c.fact 25 (f := .glo "_law_set") rfl)
  obtain ⟨fd, F⟩ := c.def_ 25 (d := dd "_law_set" 38) rfl
  have S : FnScope (["bag", "line", "folk", "kind", "found", "rest", "name", "k"] : List Str) ["bag", "line", "folk"] (dd "_law_set" 38).scope := ⟨rfl, rfl, rfl, by decide +kernel, rfl, by decide +kernel, by decide +kernel⟩
  have hnd := S.nd
  have b := F.bindsN (ps := ["bag", "line", "folk"]) (fun _ _ _ _ _ _ us hl => match us, hl with | [_, _, _], _ => rfl)
  have ok : FnOk P w K mg base L2.CX0 2 (He.ga K "_law_set") fd ["bag", "line", "folk"] (spI ⟨K, P, w⟩ fn__law_set) := by
    refine L2.FunD.ok (N := ["bag", "line", "folk", "kind", "found", "rest", "name", "k"]) (k := 1) F S (spI_len rfl) fun cdv A outer s H vs Q E hr hsp => ⟨tS ⟨K, P, w⟩ m__law_set, ?_, body_at (np := 3) (n := 5) rfl rfl hsp⟩
    clear hsp
    unfold m__law_set; first | refine iSs_cons ?_ ?_ | refine iSs_one ?_
    all_goals walk_at "I.S"
  exact ⟨_, fd, ["bag", "line", "folk"], ok, hm, F.kp, b⟩
theorem w__law_truth {P : Program} {w : World} {K : Fg} {mg : Str → Option Value} {base : Heap} {h : Heap} (c : He.SaysD fa fn K) (KX : K.In h) (Gn : h.Ns mainGlobals mg) (G : Gb mg)  : Fok ⟨K, P, w⟩ mg base 1 "_law_truth" fn__law_truth := by
  have hm := He.glo_ok KX Gn (c.fact 26 (f := .glo "_law_truth") rfl)
  obtain ⟨fd, F⟩ := c.def_ 26 (d := dd "_law_truth" 39) rfl
  have S : FnScope (["found", "due"] : List Str) ["found", "due"] (dd "_law_truth" 39).scope := ⟨rfl, rfl, rfl, by decide +kernel, rfl, by decide +kernel, by decide +kernel⟩
  have hnd := S.nd
  have b := F.bindsN (ps := ["found", "due"]) (fun _ _ _ _ _ _ us hl => match us, hl with | [_, _], _ => rfl)
  have ok : FnOk P w K mg base L2.CX0 1 (He.ga K "_law_truth") fd ["found", "due"] (spI ⟨K, P, w⟩ fn__law_truth) := by
    refine L2.FunD.ok (N := ["found", "due"]) (k := 0) F S (spI_len rfl) fun cdv A outer s H vs Q E hr hsp => ⟨tS ⟨K, P, w⟩ m__law_truth, ?_, body_at (np := 2) (n := 0) rfl rfl hsp⟩
    clear hsp
    unfold m__law_truth; first | refine iSs_cons ?_ ?_ | refine iSs_one ?_
    all_goals walk_at "I.S"
  exact ⟨_, fd, ["found", "due"], ok, hm, F.kp, b⟩
theorem wl_law {P : Program} {w : World} {K : Fg} {mg : Str → Option Value} {base : Heap} {h : Heap} {fd : FuncData} (c : He.SaysD fa fn K) (KX : K.In h) (Gn : h.Ns mainGlobals mg) (G : Gb mg) (F : FunD K (dd "law" 40).name (dd "law" 40).qual (dd "law" 40).params (dd "law" 40).body (dd "law" 40).scope [] [] (He.ga K "law") fd) (S : FnScope (["script", "k", "bag", "folk", "known", "kept", "turn", "line", "initial", "entries", "lines", "some", "due"] : List Str) ["script"] (dd "law" 40).scope) (h0 : Fok ⟨K, P, w⟩ mg base 1 "_law_bag" fn__law_bag) (h1 : Fok ⟨K, P, w⟩ mg base 4 "_law_few" fn__law_few) (h2 : Fok ⟨K, P, w⟩ mg base 1 "_law_folk" fn__law_folk) (h3 : Fok ⟨K, P, w⟩ mg base 1 "_law_cell_at" fn__law_cell_at) (h4 : Fok ⟨K, P, w⟩ mg base 2 "_law_set" fn__law_set) (h5 : Fok ⟨K, P, w⟩ mg base 1 "_law_take" fn__law_take) (h6 : Fok ⟨K, P, w⟩ mg base 6 "can_stay" fn_can_stay) (h7 : Fok ⟨K, P, w⟩ mg base 1 "_law_truth" fn__law_truth) (h8 : Fok ⟨K, P, w⟩ mg base 6 "why_cannot_stay" fn_why_cannot_stay) (k6_0 : FokK ⟨K, P, w⟩ mg base 6 "can_stay" ["cars", "log", "start"] [2, 1, 0] fn_can_stay) : FnG P w K mg base L2.CX0 7 (He.ga K "law") fd ["script"] (spI ⟨K, P, w⟩ fn_law) := by
  have hnd := S.nd
  refine okG (N := ["script", "k", "bag", "folk", "known", "kept", "turn", "line", "initial", "entries", "lines", "some", "due"]) (k := 6) F S (spI_len rfl) fun cdv A outer s H vs Q E hg hr hsp => ⟨tS ⟨K, P, w⟩ m_law, ?_, body_at (np := 1) (n := 12) rfl rfl hsp⟩
  clear hsp
  unfold m_law; first | refine iSs_cons ?_ ?_ | refine iSs_one ?_
  all_goals walk_at "I.S"
end Ol
set_option Elab.async false
set_option linter.all false
set_option maxRecDepth 100000
set_option maxHeartbeats 4000000
/-! own: lemmas by which the language is run on symbolic data -/
namespace Ol
open PySem PySem.Spec PyProof.Rows L2
/-! what each form does, once its parts are known -/
section
variable {env e1 e2 : Env} {a b : ME} {x y : PV} {r t : RV} {f : RV → RV → Option PV} {p : PV}
theorem q_seq {s t : MS} {e : Env} (h : s env = some (.nx e)) : mSeq s t env = t e := by unfold mSeq; rw [h]; rfl
theorem q_seqR {s t : MS} {v : PV} {e : Env} (h : s env = some (.ret v e)) : mSeq s t env = some (.ret v e) := by unfold mSeq; rw [h]; rfl
theorem q_for {g : MG} {it : MI} {body : MS} {ds : List D} {e : Env} (h : it env = some (ds, e)) : mFor g it body env = forL g body ds e := by unfold mFor; rw [h]; rfl
/-- a loop that runs to its end: the state behind i turns -/
theorem forL_run {g : MG} {body : MS} {α : Type} (c : α → D) (I : List α → Env) : ∀ (xs done : List α), (∀ (d : List α) (x : α) (r : List α), done ++ xs = d ++ x :: r → (g (.d (c x)) (I d)).bind body = some (.nx (I (d ++ [x])))) → forL g body (xs.map c) (I done) = some (.nx (I (done ++ xs)))
  | [], done, _ => by rw [List.append_nil]; rfl
  | x :: r, done, h => by
    have h1 := h done x r rfl
    rw [List.map_cons]
    unfold forL
    cases z : g (.d (c x)) (I done) with
    | none => rw [z] at h1; cases h1
    | some e1 =>
      rw [z] at h1
      have h2 : body e1 = some (.nx (I (done ++ [x]))) := h1
      show (body e1).bind _ = _
      rw [h2]
      show forL g body (r.map c) (I (done ++ [x])) = _
      rw [forL_run c I r (done ++ [x]) (fun d y s hd => h d y s (by rw [← hd]; simp))]
      simp
end
/-- a list comprehension whose parts leave the slots as they are -/
theorem compL_pure {own : List Nat} {g : MG} {c : MT} {elt : ME} {e : Env} {α : Type} (k : α → D) (te : α → Env) (pb : α → Bool) (fd : α → D) : ∀ (xs : List α) (acc : List D), (∀ x ∈ xs, g (.d (k x)) e = some (te x)) → (∀ x ∈ xs, c (te x) = some (pb x, te x)) →
    (∀ x ∈ xs, pb x = true → (elt (te x)).bind (fun y => (fz y.1).bind fun d => some (d, wipeE y.2 own)) = some (fd x, e)) → (∀ x ∈ xs, pb x = false → wipeE (te x) own = e) → acc.length + xs.length ≤ 100000 → compL own g c elt (xs.map k) e acc = some (acc ++ (xs.filter pb).map fd, e)
  | [], acc, _, _, _, _, _ => by simp [compL]
  | x :: r, acc, h1, h2, h3, h4, hl => by
    have m1 : x ∈ x :: r := List.mem_cons_self
    have rest : ∀ acc : List D, acc.length + r.length ≤ 100000 → compL own g c elt (r.map k) e acc = some (acc ++ (r.filter pb).map fd, e) := fun acc hl => compL_pure k te pb fd r acc (fun y hy => h1 y (List.mem_cons_of_mem _ hy)) (fun y hy => h2 y (List.mem_cons_of_mem _ hy)) (fun y hy => h3 y (List.mem_cons_of_mem _ hy)) (fun y hy => h4 y (List.mem_cons_of_mem _ hy)) hl
    rw [List.map_cons]
    unfold compL
    rw [h1 x m1]
    show (c (te x)).bind _ = _
    rw [h2 x m1]
    simp only [Option.bind_some]
    rw [List.length_cons] at hl
    cases q : pb x with
    | false =>
      rw [if_neg (by simp), h4 x m1 q, rest acc (by omega)]
      simp [q]
    | true =>
      rw [if_pos rfl]
      have w := h3 x m1 q
      cases z : elt (te x) with
      | none => rw [z] at w; cases w
      | some y =>
        rw [z] at w
        simp only [Option.bind_some] at w ⊢
        cases z2 : fz y.1 with
        | none => rw [z2] at w; cases w
        | some d =>
          rw [z2] at w
          simp only [Option.bind_some, Option.some.injEq, Prod.mk.injEq] at w ⊢
          obtain ⟨w1, w2⟩ := w
          subst w1
          rw [if_pos (by omega), w2, rest _ (by simp; omega)]
          simp [q]
end Ol
set_option Elab.async false
set_option linter.all false
set_option maxRecDepth 100000
set_option maxHeartbeats 4000000
/-! own: the set of equations by which the language is run; lanes, events, logs as data -/
namespace Ol
open PySem PySem.Spec PyProof.Rows L2
abbrev sD (l : List Str) : D := .tuple (l.map .str)
abbrev Ev := Option Str
def ev : Ev → D
  | none => .tuple [.str "out"]
  | some c => .tuple [.str "in", .str c]
abbrev lg (es : List Ev) : D := .list (es.map ev)
@[simp] theorem shS (x : Str) : SeqAt.shaped (.str x) = PyData.strOk x := by
  simp [SeqAt.shaped, PyData.canLay0, PyData.depth]
@[simp] theorem shI (x : Int) : SeqAt.shaped (.int x) = true := by simp [SeqAt.shaped, PyData.canLay0, PyData.depth]
@[simp] theorem shB (x : Bool) : SeqAt.shaped (.bool x) = true := by simp [SeqAt.shaped, PyData.canLay0, PyData.depth]
@[simp] theorem shN : SeqAt.shaped .none = true := by simp [SeqAt.shaped, PyData.canLay0, PyData.depth]
@[simp] theorem ok_in : PyData.strOk ("in" : Str) = true := by decide +kernel
@[simp] theorem ok_out : PyData.strOk ("out" : Str) = true := by decide +kernel
@[simp] theorem in_out : (("in" : Str) == ("out" : Str)) = false := by decide
@[simp] theorem out_in : (("out" : Str) == ("in" : Str)) = false := by decide
@[simp] theorem in_out' : ¬ ("in" : Str) = ("out" : Str) := by decide
@[simp] theorem out_in' : ¬ ("out" : Str) = ("in" : Str) := by decide
@[simp] theorem eqv_s (x y : Str) : PyData.eqv (.str x) (.str y) = (x == y) := by simp [PyData.eqv]
@[simp] theorem eqv_i (x y : Int) : PyData.eqv (.int x) (.int y) = (x == y) := by simp [PyData.eqv]
@[simp] theorem eqv_b (x y : Bool) : PyData.eqv (.bool x) (.bool y) = (x == y) := by simp [PyData.eqv]
theorem ix_last (ds : List D) (d : D) : oIx (.d (.list (ds ++ [d]))) (.d (.int (-1))) = some (.d d) := by
  simp only [oIx, atI_last]; rfl
theorem ix_nat (ds : List D) (i : Nat) (d : D) (h : ds[i]? = some d) : oIx (.d (.list ds)) (.d (.int (i : Nat))) = some (.d d) := by
  simp only [oIx, atI_nat h]; rfl
theorem ix_natT (ds : List D) (i : Nat) (d : D) (h : ds[i]? = some d) : oIx (.d (.tuple ds)) (.d (.int (i : Nat))) = some (.d d) := by
  simp only [oIx, atI_nat h]; rfl
@[simp] theorem ix_list0 (d : D) (ds : List D) : oIx (.d (.list (d :: ds))) (.d (.int 0)) = some (.d d) := ix_nat (d :: ds) 0 d rfl
@[simp] theorem ix_tup0 (d : D) (ds : List D) : oIx (.d (.tuple (d :: ds))) (.d (.int 0)) = some (.d d) := ix_natT (d :: ds) 0 d rfl
@[simp] theorem ix_tup1 (d d' : D) (ds : List D) : oIx (.d (.tuple (d :: d' :: ds))) (.d (.int 1)) = some (.d d') := ix_natT (d :: d' :: ds) 1 d' rfl
@[simp] theorem ix_list1 (d d' : D) (ds : List D) : oIx (.d (.list (d :: d' :: ds))) (.d (.int 1)) = some (.d d') := ix_nat (d :: d' :: ds) 1 d' rfl
@[simp] theorem ix_list2 (d d' d'' : D) (ds : List D) : oIx (.d (.list (d :: d' :: d'' :: ds))) (.d (.int 2)) = some (.d d'') := ix_nat (d :: d' :: d'' :: ds) 2 d'' rfl
/-! sizes -/
def dl : Ev → Int
  | none => -1
  | some _ => 1
def endN (n : Int) (es : List Ev) : Int := es.foldl (fun a e => a + dl e) n
def szs (n : Int) : List Ev → List Int
  | [] => [n]
  | e :: r => n :: szs (n + dl e) r
theorem szs_snoc : ∀ (es : List Ev) (n : Int) (x : Ev), szs n (es ++ [x]) = szs n es ++ [endN n (es ++ [x])]
  | [], n, x => rfl
  | e :: r, n, x => by
    show n :: szs (n + dl e) (r ++ [x]) = n :: (szs (n + dl e) r ++ [endN n (e :: r ++ [x])])
    rw [szs_snoc r]
    rfl
theorem szs_last (n : Int) (es : List Ev) : ∃ pre, szs n es = pre ++ [endN n es] := by
  rcases List.eq_nil_or_concat es with h | ⟨r, x, h⟩
  · subst h; exact ⟨[], rfl⟩
  · subst h; exact ⟨szs n r, by rw [List.concat_eq_append]; exact szs_snoc r n x⟩
theorem endN_snoc (n : Int) (es : List Ev) (x : Ev) : endN n (es ++ [x]) = endN n es + dl x := by simp [endN]
theorem szs_len : ∀ (es : List Ev) (n : Int), (szs n es).length = es.length + 1
  | [], _ => rfl
  | e :: r, n => congrArg Nat.succ (szs_len r _)
theorem szs_get : ∀ (es : List Ev) (n : Int) (i : Nat), i ≤ es.length → (szs n es)[i]? = some (endN n (es.take i))
  | [], n, i, h => by
    have : i = 0 := by simpa using h
    subst this; rfl
  | e :: r, n, 0, h => rfl
  | e :: r, n, i + 1, h => by
    have z := szs_get r (n + dl e) i (by simpa using h)
    simpa [szs, endN] using z
end Ol
set_option Elab.async false
set_option linter.all false
set_option maxRecDepth 100000
set_option maxHeartbeats 4000000
/-! own: comprehensions and calls, run -/
namespace Ol
open PySem PySem.Spec PyProof.Rows L2
theorem comp_pure {own : List (Str × Nat)} {g : MG} {it : MI} {c : MT} {elt : ME} {env env1 e : Env} {α : Type} (k : α → D) (xs : List α) (te : α → Env) (pb : α → Bool) (fd : α → D) (hit : it env = some (xs.map k, env1)) (he : wipeE env1 (own.map (·.2)) = e) (hr : restE env1 e (own.map (·.2)) = env1)
    (h1 : ∀ x ∈ xs, g (.d (k x)) e = some (te x)) (h2 : ∀ x ∈ xs, c (te x) = some (pb x, te x)) (h3 : ∀ x ∈ xs, pb x = true → (elt (te x)).bind (fun y => (fz y.1).bind fun d => some (d, wipeE y.2 (own.map (·.2)))) = some (fd x, e)) (h4 : ∀ x ∈ xs, pb x = false → wipeE (te x) (own.map (·.2)) = e) (hl : xs.length ≤ 100000) :
    mCompN own g it c elt env = some (.new (.lst ((xs.filter pb).map fd)), env1) := by
  unfold mCompN mComp
  rw [hit]
  simp only [Option.bind_some]
  rw [he, compL_pure k te pb fd xs [] h1 h2 h3 h4 (by simpa using hl)]
  simp only [Option.bind_some, List.nil_append]
  rw [hr]
theorem comp_all {own : List (Str × Nat)} {g : MG} {it : MI} {elt : ME} {env env1 e : Env} {α : Type} (k : α → D) (xs : List α) (te : α → Env) (fd : α → D) (hit : it env = some (xs.map k, env1)) (he : wipeE env1 (own.map (·.2)) = e) (hr : restE env1 e (own.map (·.2)) = env1)
    (h1 : ∀ x ∈ xs, g (.d (k x)) e = some (te x)) (h3 : ∀ x ∈ xs, (elt (te x)).bind (fun y => (fz y.1).bind fun d => some (d, wipeE y.2 (own.map (·.2)))) = some (fd x, e)) (hl : xs.length ≤ 100000) :
    mCompN own g it mYes elt env = some (.new (.lst (xs.map fd)), env1) := by
  have z := comp_pure (c := mYes) k xs te (fun _ => true) fd hit he hr h1 (fun _ _ => rfl) (fun x hx _ => h3 x hx) (fun _ _ q => by cases q) hl
  rw [z, List.filter_eq_self.mpr (fun _ _ => rfl)]
theorem boolsOf_map {α : Type} (f : α → Bool) (l : List α) : boolsOf (l.map fun c => .bool (f c)) = some (l.map f) := by
  have e : (l.map fun c => PyData.bool (f c)) = (l.map f).map .bool := by rw [List.map_map]; rfl
  rw [e]
  induction l.map f with
  | nil => rfl
  | cons b r ih => simp [boolsOf, ih]
theorem keysOf_strs : ∀ l : List Str, keysOf (l.map .str) = some (l.map Sum.inr)
  | [] => rfl
  | x :: l => by simp [keysOf, keyOf, keysOf_strs l]
theorem strsOf_strs : ∀ l : List Str, strsOf (l.map .str) = some l
  | [] => rfl
  | x :: l => by simp [strsOf, strsOf_strs l]
theorem intsOf_ints : ∀ l : List Int, intsOf (l.map .int) = some l
  | [] => rfl
  | x :: l => by simp [intsOf, intsOf_ints l]
theorem boolsOf_bools : ∀ l : List Bool, boolsOf (l.map .bool) = some l
  | [] => rfl
  | x :: l => by simp [boolsOf, boolsOf_bools l]
theorem dist_strs {l : List Str} (h : l.Nodup) : (dist (l.map (Sum.inr : Str → Key))).length = l.length := by
  rw [dist_map Sum.inr (fun _ _ z => Sum.inr.inj z), List.length_map]
  exact dist_len_eq.mpr h
theorem flat_strs (l : List Str) : (l.map PyData.str).all flatD = true := by simp [flatD]
theorem inV_strs (x : Str) (l : List Str) : inV (.str x) ((l.map PyData.str).map tv) = decide (x ∈ l) := by
  induction l with
  | nil => simp [inV]
  | cons y l ih =>
    simp only [inV, List.map_cons, List.any_cons] at ih ⊢
    have e : eqV (tv (.str y)) (.str x) = decide (x = y) := by
      show (y == x) = decide (x = y)
      by_cases z : x = y
      · subst z; simp
      · have z' : ¬ y = x := fun q => z q.symm
        simp [z, z']
    rw [e]
    have ih' : ((l.map PyData.str).map tv).any (fun w => eqV w (.str x)) = decide (x ∈ l) := ih
    rw [ih', Bool.eq_iff_iff]
    simp
theorem tv_str (x : Str) : tv (.str x) = .str x := rfl
@[simp] theorem in_tup (x : Str) (l : List Str) (neg : Bool) : oIn neg (.d (.str x)) (.d (sD l)) = some (bD (neg ^^ decide (x ∈ l))) := by
  have h := flat_strs l
  simp only [oIn, tv_str, inV_strs, h, flatD, and_self, if_true]
@[simp] theorem in_lst (x : Str) (l : List Str) (neg : Bool) : oIn neg (.d (.str x)) (.d (.list (l.map .str))) = some (bD (neg ^^ decide (x ∈ l))) := by
  have h := flat_strs l
  simp only [oIn, tv_str, inV_strs, h, flatD, and_self, if_true]
@[simp] theorem in_set (x : Str) (l : List Str) (neg : Bool) : oIn neg (.d (.str x)) (.s (l.map Sum.inr)) = some (bD (neg ^^ decide (x ∈ l))) := by
  simp [oIn, keyOf, memb]
end Ol
set_option Elab.async false
set_option linter.all false
set_option maxRecDepth 100000
set_option maxHeartbeats 4000000
/-! own: dict comprehensions and enumerate, run -/
namespace Ol
open PySem PySem.Spec PyProof.Rows L2
theorem putD_new {kvs : List (Key × D)} {k : Key} {d : D} (h : k ∉ kvs.map (·.1)) : putD kvs k d = kvs ++ [(k, d)] := by
  unfold putD
  rw [if_neg]
  intro z
  obtain ⟨x, hx, hk⟩ := List.any_eq_true.mp z
  exact h (List.mem_map.mpr ⟨x, hx, of_decide_eq_true hk⟩)
theorem compDL_new {own : List Nat} {g : MG} {ek evv : ME} {e : Env} {α : Type} (k : α → D) (te : α → Env) (key : α → Key) (val : α → D) : ∀ (xs : List α) (acc : List (Key × D)), (∀ x ∈ xs, g (.d (k x)) e = some (te x)) →
    (∀ x ∈ xs, (ek (te x)).bind (fun y => (fz y.1).bind fun kd => (keyOf kd).bind fun kk => (evv y.2).bind fun z => (fz z.1).bind fun d => some (kk, d, wipeE z.2 own)) = some (key x, val x, e)) → (acc.map (·.1) ++ xs.map key).Nodup → acc.length + xs.length ≤ 100000 →
    compDL own g mYes ek evv (xs.map k) e acc = some (acc ++ xs.map fun x => (key x, val x), e)
  | [], acc, _, _, _, _ => by simp [compDL]
  | x :: r, acc, h1, h2, nd, hl => by
    have m1 : x ∈ x :: r := List.mem_cons_self
    rw [List.map_cons]
    unfold compDL
    rw [h1 x m1]
    simp only [Option.bind_some, mYes, if_true]
    rw [List.length_cons] at hl
    have w := h2 x m1
    cases z1 : ek (te x) with
    | none => rw [z1] at w; cases w
    | some y =>
      rw [z1] at w
      simp only [Option.bind_some] at w ⊢
      cases z2 : fz y.1 with
      | none => rw [z2] at w; cases w
      | some kd =>
        rw [z2] at w
        simp only [Option.bind_some] at w ⊢
        cases z3 : keyOf kd with
        | none => rw [z3] at w; cases w
        | some kk =>
          rw [z3] at w
          simp only [Option.bind_some] at w ⊢
          cases z4 : evv y.2 with
          | none => rw [z4] at w; cases w
          | some zz =>
            rw [z4] at w
            simp only [Option.bind_some] at w ⊢
            cases z5 : fz zz.1 with
            | none => rw [z5] at w; cases w
            | some d =>
              rw [z5] at w
              simp only [Option.bind_some, Option.some.injEq, Prod.mk.injEq] at w ⊢
              obtain ⟨w1, w2, w3⟩ := w
              subst w1 w2
              have hn : key x ∉ acc.map (·.1) := fun hm => (List.nodup_append.mp nd).2.2 _ hm _ (by simp) rfl
              rw [if_pos (by omega), w3, putD_new hn, compDL_new k te key val r _ (fun y hy => h1 y (List.mem_cons_of_mem _ hy)) (fun y hy => h2 y (List.mem_cons_of_mem _ hy)) (by simpa using nd) (by simp; omega)]
              simp
theorem dcomp_new {own : List (Str × Nat)} {g : MG} {it : MI} {ek evv : ME} {env env1 e : Env} {α : Type} (k : α → D) (xs : List α) (te : α → Env) (key : α → Key) (val : α → D) (hit : it env = some (xs.map k, env1)) (he : wipeE env1 (own.map (·.2)) = e) (hr : restE env1 e (own.map (·.2)) = env1)
    (h1 : ∀ x ∈ xs, g (.d (k x)) e = some (te x)) (h3 : ∀ x ∈ xs, (ek (te x)).bind (fun y => (fz y.1).bind fun kd => (keyOf kd).bind fun kk => (evv y.2).bind fun z => (fz z.1).bind fun d => some (kk, d, wipeE z.2 (own.map (·.2)))) = some (key x, val x, e)) (nd : (xs.map key).Nodup) (hl : xs.length ≤ 100000) :
    mDCompN own g it mYes ek evv env = some (.new (.dic (xs.map fun x => (key x, val x))), env1) := by
  unfold mDCompN mDComp
  rw [hit]
  simp only [Option.bind_some]
  rw [he, compDL_new k te key val xs [] h1 h3 (by simpa using nd) (by simpa using hl)]
  simp only [Option.bind_some, List.nil_append]
  rw [hr]
theorem hasK_map {α : Type} (key : α → Key) (val : α → D) (xs : List α) (kk : Key) : hasK (xs.map fun x => (key x, val x)) kk = memb (xs.map key) kk := by
  rw [Bool.eq_iff_iff]
  simp [hasK, memb]
@[simp] theorem in_dic (x : Str) (kvs : List (Key × D)) (neg : Bool) : oIn neg (.d (.str x)) (.m kvs) = some (bD (neg ^^ hasK kvs (.inr x))) := by
  simp [oIn, keyOf]
theorem map_zip {α β : Type} (f : α → β) : ∀ (l : List α) (n : Nat), ((l.zipIdx n).map fun p => f p.1) = l.map f
  | [], _ => rfl
  | x :: l, n => by simp [map_zip f l]
theorem enumD_map {α : Type} (f : α → D) : ∀ (l : List α) (n : Nat), enumD n (l.map f) = (l.zipIdx n).map fun p => .tuple [.int (p.2 : Nat), f p.1]
  | [], _ => rfl
  | x :: l, n => by simp [enumD, enumD_map f l]
end Ol
set_option Elab.async false
set_option linter.all false
set_option maxRecDepth 100000
set_option maxHeartbeats 4000000
/-! own: loops that may end early; places -/
namespace Ol
open PySem PySem.Spec PyProof.Rows L2
theorem forL_find {g : MG} {body : MS} (c : Nat → D) (I : Nat → Env) (P : Nat → Bool) (v : Nat → PV) (ve : Nat → Env) : ∀ (n m : Nat), (∀ i, m ≤ i → i < m + n → (g (.d (c i)) (I i)).bind body = if P i = true then some (.ret (v i) (ve i)) else some (.nx (I (i + 1)))) →
    forL g body ((List.range' m n).map c) (I m) = match (List.range' m n).find? P with
      | some i => some (.ret (v i) (ve i))
      | none => some (.nx (I (m + n)))
  | 0, m, _ => rfl
  | n + 1, m, h => by
    have h0 := h m (Nat.le_refl _) (by omega)
    have ih := forL_find c I P v ve n (m + 1) fun i h1 h2 => h i (by omega) (by omega)
    rw [List.range'_succ, List.map_cons]
    unfold forL
    cases z : g (.d (c m)) (I m) with
    | none => rw [z] at h0; cases q : P m <;> rw [q] at h0 <;> cases h0
    | some e1 =>
      rw [z] at h0
      have h2 : body e1 = if P m = true then some (.ret (v m) (ve m)) else some (.nx (I (m + 1))) := h0
      show (body e1).bind _ = _
      rw [h2]
      cases q : P m with
      | true => simp [List.find?_cons, q]
      | false =>
        rw [if_neg (by simp)]
        show forL g body ((List.range' (m + 1) n).map c) (I (m + 1)) = _
        rw [ih, show m + 1 + n = m + (n + 1) by omega]
        simp [List.find?_cons, q]
theorem enumD_range (f : Nat → D) : ∀ (k m : Nat), enumD m ((List.range' m k).map f) = (List.range' m k).map fun i => .tuple [.int (i : Nat), f i]
  | 0, _ => rfl
  | k + 1, m => by simp [List.range'_succ, enumD, enumD_range f k (m + 1)]
theorem szs_range : ∀ (es : List Ev) (n : Int), szs n es = (List.range' 0 (es.length + 1)).map fun i => endN n (es.take i)
  | [], n => by simp [szs, endN, List.range'_succ]
  | e :: r, n => by
    have z := szs_range r (n + dl e)
    rw [show (e :: r).length + 1 = (r.length + 1) + 1 by simp, List.range'_succ, List.map_cons]
    show n :: szs (n + dl e) r = _
    rw [z, List.range'_eq_map_range, List.range'_eq_map_range]
    simp [endN, List.map_map, Function.comp_def, Nat.add_comm]
end Ol
set_option Elab.async false
set_option linter.all false
set_option maxRecDepth 100000
set_option maxHeartbeats 4000000
/-! own: what must hold for a text of the language to end in Q -/
namespace Ol
open PySem PySem.Spec PyProof.Rows L2
def W {α : Type} (m : Env → Option (α × Env)) (env : Env) (Q : α → Env → Prop) : Prop := ∃ v e, m env = some (v, e) ∧ Q v e
def WS (m : MS) (env : Env) (Q : Rs → Prop) : Prop := ∃ r, m env = some r ∧ Q r
def WG (g : MG) (x : PV) (env : Env) (Q : Env → Prop) : Prop := ∃ e, g x env = some e ∧ Q e
def WF (F : Fn) (svs : List SV) (Q : PV → List (Option Ob) → Prop) : Prop := ∃ r outs, F svs = some (r, outs) ∧ Q r outs
def thn (t : MS) (Q : Rs → Prop) : Rs → Prop
  | .nx e => WS t e Q
  | r => Q r
def turn (I : Env → Prop) (Q : Rs → Prop) : Rs → Prop
  | .nx e => I e
  | .ct e => I e
  | .bk e => Q (.nx e)
  | .ret v e => Q (.ret v e)
def fin (svs : List SV) (Q : PV → List (Option Ob) → Prop) : Rs → Prop
  | .nx e => ∃ os, outsOf e 0 svs = some os ∧ Q (.d .none) os
  | .ret v e => ∃ os, outsOf e 0 svs = some os ∧ Q v os
  | _ => False
section
variable {env : Env} {a b c : ME} {f g : RV → RV → Option PV} {Q : PV → Env → Prop} {QB : Bool → Env → Prop} {QS : Rs → Prop}
theorem W.mono {α : Type} {m : Env → Option (α × Env)} {Q Q' : α → Env → Prop} (h : W m env Q) (q : ∀ v e, Q v e → Q' v e) : W m env Q' := by
  obtain ⟨v, e, h1, h2⟩ := h; exact ⟨v, e, h1, q v e h2⟩
theorem WS.mono {m : MS} {Q Q' : Rs → Prop} (h : WS m env Q) (q : ∀ r, Q r → Q' r) : WS m env Q' := by
  obtain ⟨v, h1, h2⟩ := h; exact ⟨v, h1, q v h2⟩
theorem WF.mono {F : Fn} {svs : List SV} {Q Q' : PV → List (Option Ob) → Prop} (h : WF F svs Q) (q : ∀ v e, Q v e → Q' v e) : WF F svs Q' := by
  obtain ⟨v, e, h1, h2⟩ := h; exact ⟨v, e, h1, q v e h2⟩
theorem u_var {i : Nat} {x : D} (h : sget env i = some (.d x)) (q : Q (.d x) env) : W (mVar i) env Q := ⟨.d x, env, by simp [mVar, h], q⟩
theorem u_varO {i : Nat} {bb : Bool} {o : Ob} (h : sget env i = some (.own bb o)) (q : Q (.slot i) env) : W (mVar i) env Q := ⟨.slot i, env, by simp [mVar, h], q⟩
theorem u_c {x : D} (q : Q (.d x) env) : W (mC x) env Q := ⟨_, _, rfl, q⟩
theorem u_newT (q : Q (.new (.dit [])) env) : W mNewT env Q := ⟨_, _, rfl, q⟩
theorem u_m1 {f : RV → Option PV} (h : W a env fun x e => ∃ r p, rd e x = some r ∧ f r = some p ∧ Q p e) : W (m1 f a) env Q := by
  obtain ⟨x, e, h1, r, p, h2, h3, q⟩ := h
  exact ⟨p, e, by simp only [m1, h1, h2, h3, Option.bind_some, if_true, Bool.false_eq_true, if_false], q⟩
theorem u_m2 (h : W a env fun x e1 => W b e1 fun y e2 => ∃ r t p, rd e2 x = some r ∧ rd e2 y = some t ∧ f r t = some p ∧ Q p e2) : W (m2 f a b) env Q := by
  obtain ⟨x, e1, h1, y, e2, h2, r, t, p, h3, h4, h5, q⟩ := h
  exact ⟨p, e2, by simp only [m2, h1, h2, h3, h4, h5, Option.bind_some, if_true, Bool.false_eq_true, if_false], q⟩
theorem u_nil {Q : List PV → Env → Prop} (q : Q [] env) : W mNil env Q := ⟨_, _, rfl, q⟩
theorem u_cons {r : MA} {Q : List PV → Env → Prop} (h : W a env fun x e1 => ∃ p, flt x = some p ∧ W r e1 fun ys e2 => Q (p :: ys) e2) : W (mCons a r) env Q := by
  obtain ⟨x, e1, h1, p, h2, ys, e2, h3, q⟩ := h
  exact ⟨_, e2, by simp only [mCons, h1, h2, h3, Option.bind_some, if_true, Bool.false_eq_true, if_false], q⟩
theorem u_mB {f : List RV → Option PV} {ma : MA} (h : W ma env fun xs e => ∃ rs p, rds e xs = some rs ∧ f rs = some p ∧ Q p e) : W (mB f ma) env Q := by
  obtain ⟨x, e, h1, r, p, h2, h3, q⟩ := h
  exact ⟨p, e, by simp only [mB, h1, h2, h3, Option.bind_some, if_true, Bool.false_eq_true, if_false], q⟩
theorem u_tup {ma : MA} (h : W ma env fun xs e => ∃ ds, fzs xs = some ds ∧ ds.length ≤ 100000 ∧ Q (.d (.tuple ds)) e) : W (mTup ma) env Q := by
  obtain ⟨x, e, h1, ds, h2, h3, q⟩ := h
  exact ⟨_, e, by simp only [mTup, h1, h2, h3, Option.bind_some, if_true, Bool.false_eq_true, if_false], q⟩
theorem u_lst {ma : MA} (h : W ma env fun xs e => ∃ ds, fzs xs = some ds ∧ ds.length ≤ 100000 ∧ Q (.new (.lst ds)) e) : W (mLst ma) env Q := by
  obtain ⟨x, e, h1, ds, h2, h3, q⟩ := h
  exact ⟨_, e, by simp only [mLst, h1, h2, h3, Option.bind_some, if_true, Bool.false_eq_true, if_false], q⟩
theorem u_test (h : W a env fun x e => ∃ k, mBo x = some k ∧ QB k e) : W (mTest a) env QB := by
  obtain ⟨x, e, h1, k, h2, q⟩ := h
  exact ⟨k, e, by simp only [mTest, h1, h2, Option.bind_some, if_true, Bool.false_eq_true, if_false], q⟩
theorem u_tru (h : W a env fun x e => ∃ r k, rd e x = some r ∧ tru r = some k ∧ QB k e) : W (mTru a) env QB := by
  obtain ⟨x, e, h1, r, k, h2, h3, q⟩ := h
  exact ⟨k, e, by simp only [mTru, h1, h2, h3, Option.bind_some], q⟩
theorem u_yes (q : QB true env) : W mYes env QB := ⟨_, _, rfl, q⟩
theorem u_andT {s t : MT} (h : W s env fun k e => (k = true → W t e QB) ∧ (k = false → QB false e)) : W (mAndT s t) env QB := by
  obtain ⟨k, e, h1, h2, h3⟩ := h
  cases k with
  | true => obtain ⟨v, e', h4, q⟩ := h2 rfl; exact ⟨v, e', by simp only [mAndT, h1, h4, Option.bind_some, if_true, Bool.false_eq_true, if_false], q⟩
  | false => exact ⟨_, _, by simp only [mAndT, h1, Option.bind_some, if_true, Bool.false_eq_true, if_false], h3 rfl⟩
theorem u_orT {s t : MT} (h : W s env fun k e => (k = true → QB true e) ∧ (k = false → W t e QB)) : W (mOrT s t) env QB := by
  obtain ⟨k, e, h1, h2, h3⟩ := h
  cases k with
  | false => obtain ⟨v, e', h4, q⟩ := h3 rfl; exact ⟨v, e', by simp only [mOrT, h1, h4, Option.bind_some, if_true, Bool.false_eq_true, if_false], q⟩
  | true => exact ⟨_, _, by simp only [mOrT, h1, Option.bind_some, if_true, Bool.false_eq_true, if_false], h2 rfl⟩
theorem u_notT {s : MT} (h : W s env fun k e => QB (!k) e) : W (mNotT s) env QB := by
  obtain ⟨k, e, h1, q⟩ := h
  exact ⟨_, e, by simp only [mNotT, h1, Option.bind_some, if_true, Bool.false_eq_true, if_false], q⟩
theorem u_and (h : W a env fun x e => ∃ k, mBo x = some k ∧ (k = true → W b e Q) ∧ (k = false → Q (.d (.bool false)) e)) : W (mAnd a b) env Q := by
  obtain ⟨x, e, h1, k, h2, h3, h4⟩ := h
  cases k with
  | true => obtain ⟨v, e', h5, q⟩ := h3 rfl; exact ⟨v, e', by simp only [mAnd, h1, h2, h5, Option.bind_some, if_true, Bool.false_eq_true, if_false], q⟩
  | false => exact ⟨_, _, by simp only [mAnd, h1, h2, Option.bind_some, if_true, Bool.false_eq_true, if_false], h4 rfl⟩
theorem u_or (h : W a env fun x e => ∃ k, mBo x = some k ∧ (k = true → Q (.d (.bool true)) e) ∧ (k = false → W b e Q)) : W (mOr a b) env Q := by
  obtain ⟨x, e, h1, k, h2, h3, h4⟩ := h
  cases k with
  | false => obtain ⟨v, e', h5, q⟩ := h4 rfl; exact ⟨v, e', by simp only [mOr, h1, h2, h5, Option.bind_some, if_true, Bool.false_eq_true, if_false], q⟩
  | true => exact ⟨_, _, by simp only [mOr, h1, h2, Option.bind_some, if_true, Bool.false_eq_true, if_false], h3 rfl⟩
theorem u_not (h : W a env fun x e => ∃ k, mBo x = some k ∧ Q (.d (.bool !k)) e) : W (mNot a) env Q := by
  obtain ⟨x, e, h1, k, h2, q⟩ := h
  exact ⟨_, e, by simp only [mNot, h1, h2, Option.bind_some, if_true, Bool.false_eq_true, if_false], q⟩
theorem u_if {t : MT} (h : W t env fun k e => (k = true → W a e Q) ∧ (k = false → W b e Q)) : W (mIf t a b) env Q := by
  obtain ⟨k, e, h1, h2, h3⟩ := h
  cases k with
  | true => obtain ⟨v, e', h4, q⟩ := h2 rfl; exact ⟨v, e', by simp only [mIf, h1, h4, Option.bind_some, if_true, Bool.false_eq_true, if_false], q⟩
  | false => obtain ⟨v, e', h4, q⟩ := h3 rfl; exact ⟨v, e', by simp only [mIf, h1, h4, Option.bind_some, if_true, Bool.false_eq_true, if_false], q⟩
theorem u_chain (h : W a env fun x e1 => W b e1 fun y e2 => ∃ r t p k, rd e2 x = some r ∧ rd e2 y = some t ∧ f r t = some p ∧ mBo p = some k ∧ (k = true → W c e2 fun z e3 => ∃ r t p, rd e3 y = some r ∧ rd e3 z = some t ∧ g r t = some p ∧ Q p e3) ∧ (k = false → Q (.d (.bool false)) e2)) : W (mChain f g a b c) env Q := by
  obtain ⟨x, e1, h1, y, e2, h2, r, t, p, k, h3, h4, h5, h6, h7, h8⟩ := h
  cases k with
  | true =>
    obtain ⟨z, e3, h9, r', t', p', k1, k2, k3, q⟩ := h7 rfl
    exact ⟨p', e3, by simp only [mChain, h1, h2, h3, h4, h5, h6, h9, k1, k2, k3, Option.bind_some, if_true, Bool.false_eq_true, if_false], q⟩
  | false => exact ⟨_, e2, by simp only [mChain, h1, h2, h3, h4, h5, h6, Option.bind_some, if_true, Bool.false_eq_true, if_false], h8 rfl⟩
theorem u_noP {Q : Option Int → Env → Prop} (q : Q none env) : W mNoP env Q := ⟨_, _, rfl, q⟩
theorem u_P {Q : Option Int → Env → Prop} (h : W a env fun x e => ∃ i : Int, x = .d (.int i) ∧ Q (some i) e) : W (mP a) env Q := by
  obtain ⟨x, e, h1, i, rfl, q⟩ := h
  exact ⟨_, e, by simp only [mP, h1, Option.bind_some, if_true, Bool.false_eq_true, if_false], q⟩
theorem u_sl {l h : MO} (hh : W a env fun x e1 => W l e1 fun lo e2 => W h e2 fun hi e3 => ∃ r p, rd e3 x = some r ∧ oSl lo hi r = some p ∧ Q p e3) : W (mSl a l h) env Q := by
  obtain ⟨x, e1, h1, lo, e2, h2, hi, e3, h3, r, p, h4, h5, q⟩ := hh
  exact ⟨p, e3, by simp only [mSl, h1, h2, h3, h4, h5, Option.bind_some], q⟩
theorem u_meth {kd i : Nat} {f : Ob → List D → Option (PV × Ob)} {ma : MA} (h : ∃ b0 o0, sget env i = some (.own b0 o0) ∧ o0.kind = kd ∧ W ma env fun xs e => ∃ ds b o r, fzs xs = some ds ∧ sget e i = some (.own b o) ∧ f o ds = some r ∧ Q r.1 (sset e i (some (.own b r.2)))) : W (mMeth kd i f ma) env Q := by
  obtain ⟨b0, o0, h0, hk, xs, e, h1, ds, b, o, r, h2, h3, h4, q⟩ := h
  exact ⟨_, _, by simp only [mMeth, h0, hk, h1, h2, h3, h4, Option.bind_some, if_true], q⟩
theorem u_isi {T : String} (h : W a env fun x e => ∃ r, rd e x = some r ∧ noSet r = true ∧ isaOk T = true ∧ Q (.d (.bool (isaB (tyD r) T))) e) : W (mIsi a T) env Q := by
  obtain ⟨x, e, h1, r, h2, h3, h4, q⟩ := h
  exact ⟨_, e, by simp only [mIsi, h1, h2, h3, h4, Option.bind_some, and_self, if_true], q⟩
theorem u_isi2 {T T' : String} (h : W a env fun x e => ∃ r, rd e x = some r ∧ noSet r = true ∧ isaOk T = true ∧ isaOk T' = true ∧ Q (.d (.bool (isaB (tyD r) T || isaB (tyD r) T'))) e) : W (mIsi2 a T T') env Q := by
  obtain ⟨x, e, h1, r, h2, h3, h4, h5, q⟩ := h
  exact ⟨_, e, by simp only [mIsi2, h1, h2, h3, h4, h5, Option.bind_some, and_self, if_true], q⟩
/-- a call: what is lent, what the function does, what comes back -/
theorem u_call {ios : List Bool} {F : Fn} {ma : MA} (h : W ma env fun xs e1 => okSlots (fzIO ios xs) = true ∧ ∃ ss, pars e1 ios (fzIO ios xs) = some ss ∧ WF F (ss.map (·.1)) fun r outs => (!(ss.any (·.2)) || (nlP r && nlM outs)) = true ∧ ∃ e2, putOuts e1 (fzIO ios xs) outs = some e2 ∧ Q r e2) : W (mCall ios F ma) env Q := by
  obtain ⟨xs, e1, h1, h2, ss, h3, r, outs, h4, h5, e2, h6, q⟩ := h
  exact ⟨r, e2, by simp only [mCall, h1, h2, h3, h4, h5, h6, Option.bind_some, if_true], q⟩
theorem u_callK {perm : List Nat} {ios : List Bool} {F : Fn} {ma : MA} (h : W ma env fun xs e1 => ∃ ys, pick perm xs = some ys ∧ okSlots (fzIO ios ys) = true ∧ ∃ ss, pars e1 ios (fzIO ios ys) = some ss ∧ WF F (ss.map (·.1)) fun r outs => (!(ss.any (·.2)) || (nlP r && nlM outs)) = true ∧ ∃ e2, putOuts e1 (fzIO ios ys) outs = some e2 ∧ Q r e2) : W (mCallK perm ios F ma) env Q := by
  obtain ⟨xs, e1, h1, ys, h0, h2, ss, h3, r, outs, h4, h5, e2, h6, q⟩ := h
  exact ⟨r, e2, by simp only [mCallK, h1, h0, h2, h3, h4, h5, h6, Option.bind_some, if_true], q⟩
/-! statements -/
theorem u_seq {s t : MS} (h : WS s env (thn t QS)) : WS (mSeq s t) env QS := by
  obtain ⟨r, h1, h2⟩ := h
  cases r with
  | nx e => obtain ⟨r', h3, q⟩ := h2; exact ⟨r', by simp only [mSeq, h1, h3, Option.bind_some, if_true, Bool.false_eq_true, if_false], q⟩
  | ret v e => exact ⟨.ret v e, by simp only [mSeq, h1, Option.bind_some, if_true, Bool.false_eq_true, if_false], h2⟩
  | bk e => exact ⟨.bk e, by simp only [mSeq, h1, Option.bind_some, if_true, Bool.false_eq_true, if_false], h2⟩
  | ct e => exact ⟨.ct e, by simp only [mSeq, h1, Option.bind_some, if_true, Bool.false_eq_true, if_false], h2⟩
theorem u_ifS {k : MT} {s t : MS} (h : W k env fun k e => (k = true → WS s e QS) ∧ (k = false → WS t e QS)) : WS (mIfS k s t) env QS := by
  obtain ⟨k, e, h1, h2, h3⟩ := h
  cases k with
  | true => obtain ⟨r, h4, q⟩ := h2 rfl; exact ⟨r, by simp only [mIfS, h1, h4, Option.bind_some, if_true, Bool.false_eq_true, if_false], q⟩
  | false => obtain ⟨r, h4, q⟩ := h3 rfl; exact ⟨r, by simp only [mIfS, h1, h4, Option.bind_some, if_true, Bool.false_eq_true, if_false], q⟩
theorem u_skip (q : QS (.nx env)) : WS mSkip env QS := ⟨_, rfl, q⟩
theorem u_break (q : QS (.bk env)) : WS mBreak env QS := ⟨_, rfl, q⟩
theorem u_cont (q : QS (.ct env)) : WS mCont env QS := ⟨_, rfl, q⟩
theorem u_asg {gg : MG} (h : W a env fun x e => WG gg x e fun e' => QS (.nx e')) : WS (mAsg gg a) env QS := by
  obtain ⟨x, e, h1, e', h2, q⟩ := h
  exact ⟨_, by simp only [mAsg, h1, h2, Option.bind_some], q⟩
theorem u_asgF {i : Nat} (h : W a env fun x e => ∃ e', store i (fzP x) e = some e' ∧ QS (.nx e')) : WS (mAsgF i a) env QS := by
  obtain ⟨x, e, h1, e', h2, q⟩ := h
  exact ⟨_, by simp only [mAsgF, h1, h2, Option.bind_some], q⟩
theorem u_drop (h : W a env fun x e => QS (.nx e)) : WS (mDrop a) env QS := by
  obtain ⟨x, e, h1, q⟩ := h
  exact ⟨_, by simp only [mDrop, h1, Option.bind_some], q⟩
theorem u_ret (h : W a env fun x e => ∃ y, back e x = some y ∧ QS (.ret y e)) : WS (mRet a) env QS := by
  obtain ⟨x, e, h1, y, h2, q⟩ := h
  exact ⟨_, by simp only [mRet, h1, h2, Option.bind_some], q⟩
theorem u_retN (q : QS (.ret (.d .none) env)) : WS mRetN env QS := ⟨_, rfl, q⟩
theorem u_retT {ma : MA} (h : W ma env fun xs e => okSlots xs = true ∧ xs.length ≤ 1000 ∧ ∃ ys, backs e xs = some ys ∧ QS (.ret (.tup ys) e)) : WS (mRetT ma) env QS := by
  obtain ⟨xs, e, h1, h2, h3, ys, h4, q⟩ := h
  exact ⟨_, by simp only [mRetT, h1, h2, h3, h4, Option.bind_some, and_self, if_true], q⟩
theorem u_par {is : List Nat} {ma : MA} (h : W ma env fun xs e => ∃ e', stores is xs e = some e' ∧ QS (.nx e')) : WS (mPar is ma) env QS := by
  obtain ⟨xs, e, h1, e', h2, q⟩ := h
  exact ⟨_, by simp only [mPar, h1, h2, Option.bind_some], q⟩
theorem u_aug {i : Nat} {x : D} (h0 : sget env i = some (.d x)) (h : W a env fun y e => ∃ t p e', rd e y = some t ∧ f (.d x) t = some p ∧ store i p e = some e' ∧ QS (.nx e')) : WS (mAug i f a) env QS := by
  obtain ⟨y, e, h1, t, p, e', h2, h3, h4, q⟩ := h
  exact ⟨_, by simp only [mAug, h0, h1, h2, h3, h4, Option.bind_some], q⟩
theorem u_setIx {i : Nat} {ff : Ob → D → D → Option Ob} (h : W b env fun x e => ∃ y, fz x = some y ∧ ∃ b0 o0, sget e i = some (.own b0 o0) ∧ W a e fun k e2 => ∃ kd b1 o o', fz k = some kd ∧ sget e2 i = some (.own b1 o) ∧ ff o kd y = some o' ∧ QS (.nx (sset e2 i (some (.own b1 o'))))) : WS (mSetIx i ff a b) env QS := by
  obtain ⟨x, e, h1, y, h2, b0, o0, h3, k, e2, h4, kd, b1, o, o', h5, h6, h7, q⟩ := h
  exact ⟨_, by simp only [mSetIx, h1, h2, h3, h4, h5, h6, h7, Option.bind_some], q⟩
theorem u_for {gg : MG} {it : MI} {s : MS} (h : W it env fun ds e => WS (forL gg s ds) e QS) : WS (mFor gg it s) env QS := by
  obtain ⟨ds, e, h1, r, h2, q⟩ := h
  exact ⟨r, by simp only [mFor, h1, h2, Option.bind_some], q⟩
theorem u_g {i : Nat} {x : PV} {e' : Env} {Q : Env → Prop} (h : store i x env = some e') (q : Q e') : WG (store i) x env Q := ⟨e', h, q⟩
theorem u_gs {is : List Nat} {x : PV} {e' : Env} {Q : Env → Prop} (h : mNames is x env = some e') (q : Q e') : WG (mNames is) x env Q := ⟨e', h, q⟩
/-- a loop by what holds behind the taken part -/
theorem u_forM {gg : MG} {s : MS} {α : Type} (k : α → D) (I : List α → Env → Prop) (l : List α) {e : Env} (h0 : I [] e) (hs : ∀ d x r e, l = d ++ x :: r → I d e → WG gg (.d (k x)) e fun e1 => WS s e1 (turn (I (d ++ [x])) QS)) (h1 : ∀ e, I l e → QS (.nx e)) : WS (forL gg s (l.map k)) e QS := by
  have go : ∀ (r d : List α) (e : Env), l = d ++ r → I d e → WS (forL gg s (r.map k)) e QS := by
    intro r
    induction r with
    | nil => intro d e hl hi; rw [List.append_nil] at hl; subst hl; exact ⟨_, rfl, h1 e hi⟩
    | cons x r ih =>
      intro d e hl hi
      obtain ⟨e1, h2, rs, h3, h4⟩ := hs d x r e hl hi
      have unf : ∀ rr, (match rs with
        | .nx e2 => forL gg s (r.map k) e2
        | .ct e2 => forL gg s (r.map k) e2
        | .bk e2 => some (.nx e2)
        | .ret v e2 => some (.ret v e2)) = some rr → forL gg s ((x :: r).map k) e = some rr := fun rr z => by
        rw [List.map_cons]
        unfold forL
        rw [h2, Option.bind_some, h3]
        exact z
      cases rs with
      | nx e2 => obtain ⟨rr, k1, k2⟩ := ih (d ++ [x]) e2 (by simp [hl]) h4; exact ⟨rr, unf rr k1, k2⟩
      | ct e2 => obtain ⟨rr, k1, k2⟩ := ih (d ++ [x]) e2 (by simp [hl]) h4; exact ⟨rr, unf rr k1, k2⟩
      | bk e2 => exact ⟨_, unf _ rfl, h4⟩
      | ret v e2 => exact ⟨_, unf _ rfl, h4⟩
  exact go l [] e rfl h0
theorem u_forI {gg : MG} {s : MS} (I : Nat → Env → Prop) (xs : List D) {e : Env} (h0 : I 0 e) (hs : ∀ i x e, xs[i]? = some x → I i e → WG gg (.d x) e fun e1 => WS s e1 (turn (I (i + 1)) QS)) (h1 : ∀ e, I xs.length e → QS (.nx e)) : WS (forL gg s xs) e QS := by
  have z := u_forM (gg := gg) (s := s) (QS := QS) (fun d : D => d) (fun d e => I d.length e) xs (e := e) h0 (fun d x r e hl hi => by
    have := hs d.length x e (by rw [hl]; simp) hi
    rw [List.length_append, List.length_singleton]
    exact this) h1
  rw [List.map_id'] at z
  exact z
theorem u_comp {own : List (Str × Nat)} {gg : MG} {it : MI} {t : MT} {elt : ME} {α : Type} (k : α → D) (l : List α) (I : List α → List D → Env → Prop) (h : W it env fun ds e => ds = l.map k ∧ I [] [] (wipeE e (own.map (·.2))) ∧
    (∀ d x r acc e, l = d ++ x :: r → I d acc e → WG gg (.d (k x)) e fun e1 => W t e1 fun b e2 => (b = true → W elt e2 fun y e3 => ∃ dd, fz y = some dd ∧ acc.length < 100000 ∧ I (d ++ [x]) (acc ++ [dd]) (wipeE e3 (own.map (·.2)))) ∧ (b = false → I (d ++ [x]) acc (wipeE e2 (own.map (·.2))))) ∧
    ∀ acc e', I l acc e' → Q (.new (.lst acc)) (restE e e' (own.map (·.2)))) : W (mCompN own gg it t elt) env Q := by
  obtain ⟨ds, e0, hit, rfl, h0, hs, h1⟩ := h
  have go : ∀ (r d : List α) (acc : List D) (e : Env), l = d ++ r → I d acc e → ∃ acc' e', compL (own.map (·.2)) gg t elt (r.map k) e acc = some (acc', e') ∧ I l acc' e' := by
    intro r
    induction r with
    | nil => intro d acc e hl hi; rw [List.append_nil] at hl; subst hl; exact ⟨acc, e, by simp [compL], hi⟩
    | cons x r ih =>
      intro d acc e hl hi
      obtain ⟨e1, h2, b, e2, h3, h4, h5⟩ := hs d x r acc e hl hi
      cases b with
      | true =>
        obtain ⟨y, e3, h6, dd, h7, h8, h9⟩ := h4 rfl
        obtain ⟨acc', e', k1, k2⟩ := ih (d ++ [x]) _ _ (by simp [hl]) h9
        refine ⟨acc', e', ?_, k2⟩
        rw [List.map_cons]
        unfold compL
        rw [h2, Option.bind_some, h3, Option.bind_some]
        dsimp only
        rw [if_pos rfl, h6, Option.bind_some]
        dsimp only
        rw [h7, Option.bind_some, if_pos h8, k1]
      | false =>
        obtain ⟨acc', e', k1, k2⟩ := ih (d ++ [x]) _ _ (by simp [hl]) (h5 rfl)
        refine ⟨acc', e', ?_, k2⟩
        rw [List.map_cons]
        unfold compL
        rw [h2, Option.bind_some, h3, Option.bind_some]
        dsimp only
        rw [if_neg (by simp), k1]
  obtain ⟨acc', e', k1, k2⟩ := go l [] [] _ rfl h0
  exact ⟨_, _, by simp only [mCompN, mComp, hit, k1, Option.bind_some], h1 _ _ k2⟩
theorem u_fn {np n : Nat} {body : MS} {svs : List SV} {Q : PV → List (Option Ob) → Prop} (hl : svs.length = np) (h : WS body (svs.map some ++ List.replicate n none) (fin svs Q)) : WF (runFn np n body) svs Q := by
  obtain ⟨r, h1, h2⟩ := h
  cases r with
  | nx e => obtain ⟨os, h3, q⟩ := h2; exact ⟨_, _, by simp only [runFn, hl, if_true, h1, h3, Option.bind_some], q⟩
  | ret v e => obtain ⟨os, h3, q⟩ := h2; exact ⟨_, _, by simp only [runFn, hl, if_true, h1, h3, Option.bind_some], q⟩
  | bk e => exact h2.elim
  | ct e => exact h2.elim
theorem WF.of {F : Fn} {svs : List SV} {r : PV} {outs : List (Option Ob)} {Q : PV → List (Option Ob) → Prop} (h : F svs = some (r, outs)) (q : Q r outs) : WF F svs Q := ⟨r, outs, h, q⟩
/-! iterables -/
theorem u_iter {Q : List D → Env → Prop} (h : W a env fun x e => ∃ ds, (match x with
    | .d (.list ds) => some ds
    | .new (.lst ds) => some ds
    | .d (.tuple ds) => some ds
    | .d (.str z) => some (z.cps.toList.map fun c => .str ⟨#[c]⟩)
    | _ => none) = some ds ∧ Q ds e) : W (mIter a) env Q := by
  obtain ⟨x, e, h1, ds, h2, q⟩ := h
  refine ⟨ds, e, ?_, q⟩
  simp only [mIter, h1, Option.bind_some]
  split at h2 <;> first | (cases h2; rfl) | cases h2
theorem u_enum {ma : MA} {Q : List D → Env → Prop} (h : W ma env fun x e => ∃ ds, (match x with
    | [.d (.list ds)] => some ds
    | [.new (.lst ds)] => some ds
    | [.d (.tuple ds)] => some ds
    | _ => none) = some ds ∧ Q (enumD 0 ds) e) : W (mEnum ma) env Q := by
  obtain ⟨x, e, h1, ds, h2, q⟩ := h
  refine ⟨enumD 0 ds, e, ?_, q⟩
  simp only [mEnum, h1, Option.bind_some]
  split at h2 <;> first | (cases h2; rfl) | cases h2
theorem u_range1 {ma : MA} {Q : List D → Env → Prop} (h : W ma env fun x e => ∃ j : Int, x = [.d (.int j)] ∧ (-1000000 ≤ j ∧ j < 1000000) ∧ Q (rangeD 0 j.toNat) e) : W (mRange1 ma) env Q := by
  obtain ⟨x, e, h1, j, rfl, h2, q⟩ := h
  refine ⟨_, e, ?_, q⟩
  have t : (1000000 : Int) ≤ 2 ^ 62 := by decide
  simp only [mRange1, h1, Option.bind_some]
  generalize (2 ^ 62 : Int) = u at *
  rw [if_pos (by omega)]
theorem u_range2 {ma : MA} {Q : List D → Env → Prop} (h : W ma env fun x e => ∃ i j : Int, x = [.d (.int i), .d (.int j)] ∧ ((-1000000 ≤ i ∧ i < 1000000) ∧ -1000000 ≤ j ∧ j < 1000000) ∧ Q (rangeD i (j - i).toNat) e) : W (mRange2 ma) env Q := by
  obtain ⟨x, e, h1, i, j, rfl, h2, q⟩ := h
  refine ⟨_, e, ?_, q⟩
  have t : (1000000 : Int) ≤ 2 ^ 62 := by decide
  simp only [mRange2, h1, Option.bind_some]
  generalize (2 ^ 62 : Int) = u at *
  rw [if_pos (by omega)]
end
end Ol
namespace Ol
open PySem PySem.Spec PyProof.Rows L2
section
variable {env e : Env} {v : PV} {t : MS} {I : Env → Prop} {QS : Rs → Prop} {Q : PV → List (Option Ob) → Prop} {svs : List SV}
theorem u_thn (h : WS t e QS) : thn t QS (.nx e) := h
theorem u_thnR (h : QS (.ret v e)) : thn t QS (.ret v e) := h
theorem u_turn (h : I e) : turn I QS (.nx e) := h
theorem u_turnR (h : QS (.ret v e)) : turn I QS (.ret v e) := h
theorem u_finN (h : ∃ os, outsOf e 0 svs = some os ∧ Q (.d .none) os) : fin svs Q (.nx e) := h
theorem u_finR (h : ∃ os, outsOf e 0 svs = some os ∧ Q v os) : fin svs Q (.ret v e) := h
theorem u_mayVar {i : Nat} {Q : PV → Env → Prop} (h : W (mVar i) env Q) : W (mVar i) env Q := h
theorem u_mayWG {g : MG} {x : PV} {Q : Env → Prop} (h : WG g x env Q) : WG g x env Q := h
theorem u_mayWF {F : Fn} (h : WF F svs Q) : WF F svs Q := h
theorem u_svs1 {F : Fn} {s0 : SV} {x0 : Bool} (w : WF F [s0] Q) : WF F (List.map (fun x => x.1) [(s0, x0)]) Q := w
theorem u_svs2 {F : Fn} {s0 s1 : SV} {x0 x1 : Bool} (w : WF F [s0, s1] Q) : WF F (List.map (fun x => x.1) [(s0, x0), (s1, x1)]) Q := w
theorem u_svs3 {F : Fn} {s0 s1 s2 : SV} {x0 x1 x2 : Bool} (w : WF F [s0, s1, s2] Q) : WF F (List.map (fun x => x.1) [(s0, x0), (s1, x1), (s2, x2)]) Q := w
theorem u_svs4 {F : Fn} {s0 s1 s2 s3 : SV} {x0 x1 x2 x3 : Bool} (w : WF F [s0, s1, s2, s3] Q) : WF F (List.map (fun x => x.1) [(s0, x0), (s1, x1), (s2, x2), (s3, x3)]) Q := w
theorem u_svs5 {F : Fn} {s0 s1 s2 s3 s4 : SV} {x0 x1 x2 x3 x4 : Bool} (w : WF F [s0, s1, s2, s3, s4] Q) : WF F (List.map (fun x => x.1) [(s0, x0), (s1, x1), (s2, x2), (s3, x3), (s4, x4)]) Q := w
theorem u_svs6 {F : Fn} {s0 s1 s2 s3 s4 s5 : SV} {x0 x1 x2 x3 x4 x5 : Bool} (w : WF F [s0, s1, s2, s3, s4, s5] Q) : WF F (List.map (fun x => x.1) [(s0, x0), (s1, x1), (s2, x2), (s3, x3), (s4, x4), (s5, x5)]) Q := w
theorem u_svs7 {F : Fn} {s0 s1 s2 s3 s4 s5 s6 : SV} {x0 x1 x2 x3 x4 x5 x6 : Bool} (w : WF F [s0, s1, s2, s3, s4, s5, s6] Q) : WF F (List.map (fun x => x.1) [(s0, x0), (s1, x1), (s2, x2), (s3, x3), (s4, x4), (s5, x5), (s6, x6)]) Q := w
theorem u_svs8 {F : Fn} {s0 s1 s2 s3 s4 s5 s6 s7 : SV} {x0 x1 x2 x3 x4 x5 x6 x7 : Bool} (w : WF F [s0, s1, s2, s3, s4, s5, s6, s7] Q) : WF F (List.map (fun x => x.1) [(s0, x0), (s1, x1), (s2, x2), (s3, x3), (s4, x4), (s5, x5), (s6, x6), (s7, x7)]) Q := w
theorem sp_tt {X Y : Prop} (x : X) : (true = true → X) ∧ (true = false → Y) := ⟨fun _ => x, fun h => nomatch h⟩
theorem sp_ff {X Y : Prop} (y : Y) : (false = true → X) ∧ (false = false → Y) := ⟨fun h => (nomatch h), fun _ => y⟩
theorem sp_t {b : Bool} {X Y : Prop} (h : b = true) (x : X) : (b = true → X) ∧ (b = false → Y) := ⟨fun _ => x, fun z => by rw [h] at z; cases z⟩
theorem sp_f {b : Bool} {X Y : Prop} (h : b = false) (y : Y) : (b = true → X) ∧ (b = false → Y) := ⟨fun z => (by rw [h] at z; cases z), fun _ => y⟩
theorem o_addS {a b : Str} (h : a.length + b.length ≤ 100000) : oAdd (.d (.str a)) (.d (.str b)) = some (.d (.str (a ++ b))) := by simp [h]
theorem o_addT {a b : List D} (h : a.length + b.length ≤ 100000) : oAdd (.d (.tuple a)) (.d (.tuple b)) = some (.d (.tuple (a ++ b))) := by simp [h]
theorem o_addL {a b : List D} (h : a.length + b.length ≤ 100000) : oAdd (.d (.list a)) (.d (.list b)) = some (.new (.lst (a ++ b))) := by simp [h]
theorem f_append {a : List D} {d : D} (h : a.length < 100000) : fAppend (.lst a) [d] = some (.d .none, .lst (a ++ [d])) := by simp [h]
theorem o_div {i j : Int} (h : 0 < j) (h1 : j < 1073741824) : oDiv (.d (.int i)) (.d (.int j)) = some (.d (.int (i / j))) := by
  have g : CDiv i j := ⟨h, h1⟩
  simp [g]
theorem o_mod {i j : Int} (h : 0 < j) : oMod (.d (.int i)) (.d (.int j)) = some (.d (.int (i % j))) := by simp [h]
theorem o_eqI {i j : Int} : oEq (.d (.int i)) (.d (.int j)) = some (.d (.bool (i == j))) := by simp
theorem o_neI {i j : Int} : oNe (.d (.int i)) (.d (.int j)) = some (.d (.bool (!(i == j)))) := by simp
theorem o_eqS {i j : Str} (h1 : PyData.strOk i = true) (h2 : PyData.strOk j = true) : oEq (.d (.str i)) (.d (.str j)) = some (.d (.bool (i == j))) := by simp [h1, h2]
end
end Ol
namespace Ol
open PySem PySem.Spec PyProof.Rows L2
section
variable {b : Bool} {X Y : Prop} {p : Prop} [Decidable p] {α : Type} [BEq α] [LawfulBEq α] {u v : α}
theorem sp_b (h1 : b = true → X) (h2 : b = false → Y) : (b = true → X) ∧ (b = false → Y) := ⟨h1, h2⟩
theorem sp_nt (h : b = false) (x : X) : ((!b) = true → X) ∧ ((!b) = false → Y) := ⟨fun _ => x, fun z => by rw [h] at z; cases z⟩
theorem sp_nf (h : b = true) (y : Y) : ((!b) = true → X) ∧ ((!b) = false → Y) := ⟨fun z => (by rw [h] at z; cases z), fun _ => y⟩
theorem sp_d (h1 : p → X) (h2 : ¬ p → Y) : (decide p = true → X) ∧ (decide p = false → Y) := ⟨fun h => h1 (of_decide_eq_true h), fun h => h2 (of_decide_eq_false h)⟩
theorem sp_dt (h : p) (x : X) : (decide p = true → X) ∧ (decide p = false → Y) := ⟨fun _ => x, fun z => absurd h (of_decide_eq_false z)⟩
theorem sp_df (h : ¬ p) (y : Y) : (decide p = true → X) ∧ (decide p = false → Y) := ⟨fun z => absurd (of_decide_eq_true z) h, fun _ => y⟩
theorem sp_nd (h1 : ¬ p → X) (h2 : p → Y) : ((!decide p) = true → X) ∧ ((!decide p) = false → Y) := ⟨fun h => h1 (by simpa using h), fun h => h2 (by simpa using h)⟩
theorem sp_e (h1 : u = v → X) (h2 : ¬ u = v → Y) : ((u == v) = true → X) ∧ ((u == v) = false → Y) := ⟨fun h => h1 (by simpa using h), fun h => h2 (by simpa using h)⟩
theorem sp_et (h : u = v) (x : X) : ((u == v) = true → X) ∧ ((u == v) = false → Y) := ⟨fun _ => x, fun z => absurd h (by simpa using z)⟩
theorem sp_ef (h : ¬ u = v) (y : Y) : ((u == v) = true → X) ∧ ((u == v) = false → Y) := ⟨fun z => absurd (by simpa using z) h, fun _ => y⟩
theorem sp_ne (h1 : ¬ u = v → X) (h2 : u = v → Y) : ((!(u == v)) = true → X) ∧ ((!(u == v)) = false → Y) := ⟨fun h => h1 (by simpa using h), fun h => h2 (by simpa using h)⟩
theorem sp_xf (h1 : p → X) (h2 : ¬ p → Y) : ((false ^^ decide p) = true → X) ∧ ((false ^^ decide p) = false → Y) := ⟨fun h => h1 (by simpa using h), fun h => h2 (by simpa using h)⟩
theorem sp_xt (h1 : ¬ p → X) (h2 : p → Y) : ((true ^^ decide p) = true → X) ∧ ((true ^^ decide p) = false → Y) := ⟨fun h => h1 (by simpa using h), fun h => h2 (by simpa using h)⟩
end
theorem store_om {i : Nat} {x : PV} {e : Env} {sv : SV} {o : Option D} (h : sget e i = o.map SV.d) (hs : svOf x = some sv) : store i x e = some (sset e i (some sv)) := by
  unfold store
  rw [h]
  cases o <;> simp only [Option.map, hs, Option.bind_some]
end Ol
namespace Ol
open PySem PySem.Spec PyProof.Rows L2
theorem may_pop {o : Ob} {ds : List D} {r : PV × Ob} (h : fPopAt o ds = some r) : fPopAt o ds = some r := h
theorem map_erase (l : List Str) : ∀ j, (l.map PyData.str).eraseIdx j = (l.eraseIdx j).map PyData.str := by
  induction l with
  | nil => intro j; rfl
  | cons a r ih => intro j; cases j with
    | zero => rfl
    | succ j => simp [ih]
def gt (l : List Str) (i : Int) : Str := l.getD i.toNat ⟨#[]⟩
def dropAt (l : List Str) (i : Int) : List Str := l.eraseIdx i.toNat
/-- a popped place -/
theorem f_popAt {rest : List Str} {i : Int} (h0 : 0 ≤ i) (h1 : i < (rest.length : Nat)) (hl : rest.length ≤ 100000) : fPopAt (.lst (rest.map .str)) [.int i] = some (.d (.str (gt rest i)), .lst ((dropAt rest i).map .str)) := by
  obtain ⟨k, rfl⟩ : ∃ k : Nat, i = k := ⟨i.toNat, by omega⟩
  have hk : k < rest.length := by omega
  have t : (100000 : Int) < 2 ^ 63 ∧ -(2 ^ 63 : Int) ≤ 0 := by decide
  unfold fPopAt
  dsimp only
  rw [if_pos ⟨by omega, by omega⟩]
  have q : seqIndex? (k : Nat) (rest.map PyData.str).length = some k := by
    unfold seqIndex?
    simp
    omega
  rw [q, Option.bind_some, List.getElem?_map, List.getElem?_eq_getElem hk]
  simp [map_erase, gt, dropAt, hk]
theorem gt_at {rest : List Str} {i : Int} (h0 : 0 ≤ i) (h1 : i < (rest.length : Nat)) : rest[i.toNat]? = some (gt rest i) := by
  have hk : i.toNat < rest.length := by omega
  simp [gt, hk]
theorem gt_mem {rest : List Str} {i : Int} (h0 : 0 ≤ i) (h1 : i < (rest.length : Nat)) : gt rest i ∈ rest := List.mem_of_getElem? (gt_at h0 h1)
theorem dropAt_len {rest : List Str} {i : Int} (h0 : 0 ≤ i) (h1 : i < (rest.length : Nat)) : (dropAt rest i).length = rest.length - 1 := by
  unfold dropAt
  rw [List.length_eraseIdx]
  split <;> omega
theorem perm_at : ∀ {l : List Str} {i : Nat} {c : Str}, l[i]? = some c → List.Perm l (c :: l.eraseIdx i)
  | [], _, _, h => by cases h
  | x :: r, 0, c, h => by
    have e : x = c := Option.some.inj h
    subst e
    exact List.Perm.refl _
  | x :: r, i + 1, c, h => ((perm_at (l := r) (i := i) h).cons x).trans (.swap _ _ _)
theorem gt_perm {rest : List Str} {i : Int} (h0 : 0 ≤ i) (h1 : i < (rest.length : Nat)) : List.Perm rest (gt rest i :: dropAt rest i) := perm_at (gt_at h0 h1)
end Ol
namespace Ol
open PySem PySem.Spec PyProof.Rows L2
theorem ix_evI {y : Str} : oIx (.d (ev (some y))) (.d (.int 0)) = some (.d (.str "in")) := rfl
theorem ix_evC {y : Str} : oIx (.d (ev (some y))) (.d (.int 1)) = some (.d (.str y)) := rfl
theorem ix_evO : oIx (.d (ev none)) (.d (.int 0)) = some (.d (.str "out")) := rfl
theorem o_eqII : oEq (.d (.str "in")) (.d (.str "in")) = some (.d (.bool true)) := by rw [o_eqS ok_in ok_in]; rfl
theorem o_eqOI : oEq (.d (.str "out")) (.d (.str "in")) = some (.d (.bool false)) := by rw [o_eqS ok_out ok_in]; rfl
theorem o_eqIO : oEq (.d (.str "in")) (.d (.str "out")) = some (.d (.bool false)) := by rw [o_eqS ok_in ok_out]; rfl
theorem o_eqOO : oEq (.d (.str "out")) (.d (.str "out")) = some (.d (.bool true)) := by rw [o_eqS ok_out ok_out]; rfl
theorem sIx_none (n d : Nat) : HT.sIx n d none = d := rfl
theorem cut_m1 (ds : List D) : cutD ds none (some (-1)) = ds.dropLast := by
  unfold cutD
  rw [sIx_none]
  have : HT.sIx ds.length ds.length (some (-1)) = ds.length - 1 := by
    unfold HT.sIx
    simp
    omega
  rw [this]
  simp [HT.sIx, List.dropLast_eq_take]
theorem sIx_natW (n d k : Nat) (h : k ≤ n) : HT.sIx n d (some ((k : Nat) : Int)) = k := by
  have q : ¬ ((k : Nat) : Int) < 0 := by omega
  simp [HT.sIx, q]
  omega
theorem sIx_hi (n d : Nat) (i : Int) (h : 0 ≤ i) (h2 : i ≤ n) : HT.sIx n d (some i) = i.toNat := by
  obtain ⟨k, rfl⟩ : ∃ k : Nat, i = k := ⟨i.toNat, by omega⟩
  rw [sIx_natW n d k (by omega)]
  rfl
theorem cut_to (ds : List D) (i : Int) (h : 0 ≤ i) (h2 : i ≤ ds.length) : cutD ds none (some i) = ds.take i.toNat := by
  unfold cutD
  rw [sIx_hi _ _ i h h2, sIx_none]
  simp
theorem cut_from (ds : List D) (i : Int) (h : 0 ≤ i) (h2 : i ≤ ds.length) : cutD ds (some i) none = ds.drop i.toNat := by
  unfold cutD
  rw [sIx_hi _ _ i h h2, sIx_none]
  exact List.take_of_length_le (by simp)
end Ol
namespace Ol
open PySem PySem.Spec PyProof.Rows L2
def inx (I : Env → Prop) : Rs → Prop
  | .nx e => I e
  | _ => False
theorem u_inx {I : Env → Prop} {e : Env} (h : I e) : inx I (.nx e) := h
theorem u_seqI {s t : MS} {env : Env} {QS : Rs → Prop} (I : Env → Prop) (h : WS s env (inx I)) (k : ∀ e, I e → WS t e QS) : WS (mSeq s t) env QS := by
  obtain ⟨r, h1, h2⟩ := h
  cases r with
  | nx e => obtain ⟨r', h3, q⟩ := k e h2; exact ⟨r', by simp only [mSeq, h1, h3, Option.bind_some], q⟩
  | ret v e => exact h2.elim
  | bk e => exact h2.elim
  | ct e => exact h2.elim
theorem o_ixS {l : List Str} {i : Int} (h0 : 0 ≤ i) (h1 : i < (l.length : Nat)) : oIx (.d (.list (l.map .str))) (.d (.int i)) = some (.d (.str (gt l i))) := by
  obtain ⟨k, rfl⟩ : ∃ k : Nat, i = k := ⟨i.toNat, by omega⟩
  refine ix_nat _ k _ ?_
  have := gt_at h0 h1
  simp only [Int.toNat_natCast] at this
  rw [List.getElem?_map, this]
  rfl
theorem o_ixT {l : List Str} {i : Int} (h0 : 0 ≤ i) (h1 : i < (l.length : Nat)) : oIx (.d (sD l)) (.d (.int i)) = some (.d (.str (gt l i))) := by
  obtain ⟨k, rfl⟩ : ∃ k : Nat, i = k := ⟨i.toNat, by omega⟩
  refine ix_natT _ k _ ?_
  have := gt_at h0 h1
  simp only [Int.toNat_natCast] at this
  rw [List.getElem?_map, this]
  rfl
theorem f_setS {l : List Str} {i : Int} {y : Str} (h0 : 0 ≤ i) (h1 : i < (l.length : Nat)) : fSetL (.lst (l.map .str)) (.int i) (.str y) = some (.lst ((l.set i.toNat y).map .str)) := by
  obtain ⟨k, rfl⟩ : ∃ k : Nat, i = k := ⟨i.toNat, by omega⟩
  have hk : k < l.length := by omega
  have q : ixN (l.map PyData.str).length (k : Nat) = some k := by
    unfold ixN
    simp
    omega
  show (ixN (l.map PyData.str).length (k : Nat)).bind (fun j => some (Ob.lst ((l.map PyData.str).set j (.str y)))) = _
  rw [q, Option.bind_some]
  simp [List.map_set]
theorem shStrs {l : List Str} (h : ∀ x ∈ l, PyData.strOk x = true) : SeqAt.shaped (.list (l.map .str)) = true := by
  have h1 : ∀ l : List Str, (∀ x ∈ l, PyData.strOk x = true) → PyData.canLayAll0 (l.map PyData.str) = true := by
    intro l
    induction l with
    | nil => intro _; rfl
    | cons a r ih => intro h; simp [PyData.canLayAll0, PyData.canLay0, h a List.mem_cons_self]; exact ih fun x hx => h x (List.mem_cons_of_mem _ hx)
  have h2 : ∀ l : List Str, PyData.depthAll (l.map PyData.str) = 0 := by
    intro l
    induction l with
    | nil => rfl
    | cons a r ih => simp [PyData.depthAll, PyData.depth, ih]
  simp [SeqAt.shaped, PyData.canLay0, PyData.depth, h1 l h, h2]
theorem shStrT {l : List Str} (h : ∀ x ∈ l, PyData.strOk x = true) : SeqAt.shaped (sD l) = true := by
  have := shStrs h
  simpa [SeqAt.shaped, PyData.canLay0, PyData.depth] using this
theorem eqv_nilL (l : List Str) : PyData.eqv (.list (l.map .str)) (.list []) = l.isEmpty := by
  cases l <;> simp [PyData.eqv, PyData.eqvAll]
theorem shNil : SeqAt.shaped (.list []) = true := by simp [SeqAt.shaped, PyData.canLay0, PyData.depth, PyData.canLayAll0, PyData.depthAll]
theorem o_neNil {l : List Str} (h : ∀ x ∈ l, PyData.strOk x = true) : oNe (.d (.list (l.map .str))) (.d (.list [])) = some (.d (.bool (!decide (l.length = 0)))) := by
  have h1 := shStrs h
  simp only [oNe, h1, shNil, and_self, if_true, eqv_nilL]
  cases l <;> rfl
theorem o_eqNil {l : List Str} (h : ∀ x ∈ l, PyData.strOk x = true) : oEq (.d (.list (l.map .str))) (.d (.list [])) = some (.d (.bool (decide (l.length = 0)))) := by
  have h1 := shStrs h
  simp only [oEq, h1, shNil, and_self, if_true, eqv_nilL]
  cases l <;> rfl
theorem cut_mid (ds : List D) (i j : Int) (h0 : 0 ≤ i) (h : i ≤ j) (h2 : j ≤ ds.length) : cutD ds (some i) (some j) = (ds.drop i.toNat).take (j - i).toNat := by
  unfold cutD
  rw [sIx_hi _ _ i h0 (by omega), sIx_hi _ _ j (by omega) h2]
  congr 1
  omega
end Ol
namespace Ol
open PySem PySem.Spec PyProof.Rows L2
section
variable {env : Env} {a b : ME} {Q : PV → Env → Prop} {QS : Rs → Prop}
theorem u_idx (h : W a env fun x e1 => ∃ ds ys, x = .d (.tuple ds) ∧ strsOf ds = some ys ∧ W b e1 fun y e2 => ∃ z j, y = .d (.str z) ∧ idxOf ys z = some j ∧ Q (.d (.int (j : Nat))) e2) : W (mIdx a b) env Q := by
  obtain ⟨x, e1, h1, ds, ys, rfl, h2, y, e2, h3, z, j, rfl, h4, q⟩ := h
  exact ⟨_, e2, by simp only [mIdx, h1, h2, h3, h4, Option.bind_some], q⟩
theorem u_listR (h : W a env fun x e => ∃ n : Int, x = .d (.int n) ∧ (0 ≤ n ∧ n ≤ 16777216) ∧ Q (.new (.lst (rangeD 0 n.toNat))) e) : W (mListR a) env Q := by
  obtain ⟨x, e, h1, n, rfl, h2, q⟩ := h
  exact ⟨_, e, by simp only [mListR, h1, h2, and_self, if_true, Option.bind_some], q⟩
theorem u_asgT {is : List Nat} (h : W a env fun x e => ∃ e', mNames is (frT x) e = some e' ∧ QS (.nx e')) : WS (mAsgT is a) env QS := by
  obtain ⟨x, e, h1, e', h2, q⟩ := h
  exact ⟨_, by simp only [mAsgT, h1, h2, Option.bind_some], q⟩
theorem u_ssI (h : W a env fun x e => ∃ r p, rd e x = some r ∧ oSortedI r = some p ∧ Q p e) : W (mSortedSetI a) env Q := u_m1 h
theorem u_ss (h : W a env fun x e => ∃ r p, rd e x = some r ∧ oSorted r = some p ∧ Q p e) : W (mSortedSet a) env Q := u_m1 h
end
theorem o_rev {ds : List D} : oRev (.d (.list ds)) = some (.new (.lst ds.reverse)) := rfl
theorem o_isB {a b : Bool} : oIsB (.d (.bool a)) (.d (.bool b)) = some (.d (.bool (a == b))) := rfl
theorem store_oo {i : Nat} {x : PV} {e : Env} {sv : SV} {o : Option Ob} (h : sget e i = o.map (SV.own false)) (hs : svOf x = some sv) : store i x e = some (sset e i (some sv)) := by
  unfold store
  rw [h]
  cases o <;> simp only [Option.map, hs, Option.bind_some]
theorem stores2 {i j : Nat} {x y : PV} {e e1 e2 : Env} (h1 : store i x e = some e1) (h2 : store j y e1 = some e2) : mNames [i, j] (.tup [x, y]) e = some e2 := by
  show (store i x e).bind (stores [j] [y]) = some e2
  rw [h1]
  show (store j y e1).bind (stores [] []) = some e2
  rw [h2]
  rfl
theorem lend_ok {a b : Bool} (h : b = true) : (a || b) = true := by rw [h]; cases a <;> rfl
theorem nls_strs : ∀ l : List Str, nls (l.map PyData.str) = true
  | [] => rfl
  | x :: l => by simp [nls, nl, nls_strs l]
theorem nls_ints : ∀ l : List Int, nls (l.map PyData.int) = true
  | [] => rfl
  | x :: l => by simp [nls, nl, nls_ints l]
theorem nl_sD (l : List Str) : nl (sD l) = true := by
  show nls (l.map PyData.str) = true
  exact nls_strs l
/-! lists of ints -/
def minI : List Int → Int
  | [] => 0
  | x :: r => minL x r
theorem o_minL {zs : List Int} (h : 0 < zs.length) : oMin [.d (.list (zs.map .int))] = some (.d (.int (minI zs))) := by
  cases zs with
  | nil => simp at h
  | cons x r => simp [oMin, intsOf_ints, intsOf, minI]
theorem minI_le {zs : List Int} {z : Int} (h : z ∈ zs) : minI zs ≤ z := by
  cases zs with
  | nil => cases h
  | cons x r => exact (minL_is r x).2 z h
theorem shInts : ∀ l : List Int, SeqAt.shaped (.list (l.map .int)) = true := by
  intro l
  have h1 : PyData.canLayAll0 (l.map PyData.int) = true := by
    induction l with
    | nil => rfl
    | cons a r ih => simp [PyData.canLayAll0, PyData.canLay0, ih]
  have h2 : PyData.depthAll (l.map PyData.int) = 0 := by
    clear h1
    induction l with
    | nil => rfl
    | cons a r ih => simp [PyData.depthAll, PyData.depth, ih]
  simp [SeqAt.shaped, PyData.canLay0, PyData.depth, h1, h2]
theorem eqv_nilI (l : List Int) : PyData.eqv (.list (l.map .int)) (.list []) = l.isEmpty := by
  cases l <;> simp [PyData.eqv, PyData.eqvAll]
theorem o_neNilI {l : List Int} : oNe (.d (.list (l.map .int))) (.d (.list [])) = some (.d (.bool (!decide (l.length = 0)))) := by
  simp only [oNe, shInts, shNil, and_self, if_true, eqv_nilI]
  cases l <;> rfl
theorem o_eqNilI {l : List Int} : oEq (.d (.list (l.map .int))) (.d (.list [])) = some (.d (.bool (decide (l.length = 0)))) := by
  simp only [oEq, shInts, shNil, and_self, if_true, eqv_nilI]
  cases l <;> rfl
theorem eqvAll_strs : ∀ a b : List Str, PyData.eqvAll (a.map .str) (b.map .str) = decide (a = b)
  | [], [] => by simp [PyData.eqvAll]
  | [], _ :: _ => by simp [PyData.eqvAll]
  | _ :: _, [] => by simp [PyData.eqvAll]
  | x :: a, y :: b => by
    simp only [List.map_cons, PyData.eqvAll, PyData.eqv, eqvAll_strs a b]
    by_cases h : x = y <;> simp [h]
theorem o_eqT {a b : List Str} (h1 : ∀ x ∈ a, PyData.strOk x = true) (h2 : ∀ x ∈ b, PyData.strOk x = true) : oEq (.d (sD a)) (.d (sD b)) = some (.d (.bool (decide (a = b)))) := by
  have e : PyData.eqv (sD a) (sD b) = decide (a = b) := by simp only [PyData.eqv, eqvAll_strs]
  simp only [oEq, shStrT h1, shStrT h2, and_self, if_true, e]
theorem o_neT {a b : List Str} (h1 : ∀ x ∈ a, PyData.strOk x = true) (h2 : ∀ x ∈ b, PyData.strOk x = true) : oNe (.d (sD a)) (.d (sD b)) = some (.d (.bool (!decide (a = b)))) := by
  have e : PyData.eqv (sD a) (sD b) = decide (a = b) := by simp only [PyData.eqv, eqvAll_strs]
  simp only [oNe, shStrT h1, shStrT h2, and_self, if_true, e]
theorem o_eqT0 {a : List Str} (h1 : ∀ x ∈ a, PyData.strOk x = true) : oEq (.d (sD a)) (.d (.tuple [])) = some (.d (.bool (decide (a.length = 0)))) := by
  have z := o_eqT (b := []) h1 (by simp)
  rw [show (PyData.tuple []) = sD [] from rfl, z]
  cases a <;> rfl
/-! sorted(set(..)) of ints -/
theorem mem_sortI {zs : List Int} {x : Int} : x ∈ sortI (dist zs) ↔ x ∈ zs := by
  unfold sortI
  rw [(List.mergeSort_perm _ _).mem_iff]
  exact mem_dist
theorem len_sortI (zs : List Int) : (sortI (dist zs)).length = (dist zs).length := (List.mergeSort_perm _ _).length_eq
theorem nodup_leI : ∀ {a b : List Int}, a.Nodup → (∀ x ∈ a, x ∈ b) → a.length ≤ b.length
  | [], _, _, _ => Nat.zero_le _
  | x :: r, b, nd, h => by
    obtain ⟨n1, n2⟩ := List.nodup_cons.mp nd
    have hx : x ∈ b := h x List.mem_cons_self
    have ih := nodup_leI (b := b.erase x) n2 fun y hy => by
      have : y ≠ x := fun z => n1 (z ▸ hy)
      exact (List.mem_erase_of_ne this).mpr (h y (List.mem_cons_of_mem _ hy))
    rw [List.length_erase_of_mem hx] at ih
    have : 0 < b.length := List.length_pos_of_mem hx
    simp only [List.length_cons]
    omega
theorem dist_bound {zs : List Int} {N : Nat} (h : ∀ x ∈ zs, 0 ≤ x ∧ x ≤ N) : (dist zs).length ≤ N + 1 := by
  have z := nodup_leI (a := dist zs) (b := (List.range (N + 1)).map fun i : Nat => (i : Int)) (nodup_dist zs) fun x hx => by
    obtain ⟨h1, h2⟩ := h x (mem_dist.mp hx)
    exact List.mem_map.mpr ⟨x.toNat, List.mem_range.mpr (by omega), by omega⟩
  simpa using z
theorem o_ssI {zs : List Int} {N : Nat} (hN : N ≤ 60) (hl : zs.length ≤ 1000) (h : ∀ x ∈ zs, 0 ≤ x ∧ x ≤ N) : oSortedI (.d (.list (zs.map .int))) = some (.new (.lst ((sortI (dist zs)).map .int))) := by
  have hb := dist_bound h
  show (intsOf (zs.map .int)).bind _ = _
  rw [intsOf_ints, Option.bind_some, if_pos ⟨Nat.lt_of_le_of_lt (by omega : zs.length + 1 ≤ 1001) (by decide +kernel), by omega⟩]
end Ol
set_option Elab.async false
set_option linter.all false
set_option maxRecDepth 100000
set_option maxHeartbeats 4000000
/-! own: more of what must hold (comprehensions by a walk of each element, ..) -/
namespace Ol
open PySem PySem.Spec PyProof.Rows L2
theorem u_range3 {env : Env} {ma : MA} {Q : List D → Env → Prop} (h : W ma env fun x e => ∃ i j : Int, x = [.d (.int i), .d (.int j), .d (.int (-1))] ∧ ((-1000000 ≤ i ∧ i < 1000000) ∧ -1000000 ≤ j ∧ j < 1000000) ∧ Q (downD i (i - j).toNat) e) : W (mRange3 ma) env Q := by
  obtain ⟨x, e, h1, i, j, rfl, hb, q⟩ := h
  refine ⟨_, e, ?_, q⟩
  have t : (1000000 : Int) ≤ 2 ^ 62 := by decide
  simp only [mRange3, h1, Option.bind_some]
  generalize (2 ^ 62 : Int) = u at *
  rw [if_pos (by simp only [true_and]; omega)]
/-- a comprehension that filters: each element by its own walk -/
theorem u_filtW {own : List (Str × Nat)} {gg : MG} {it : MI} {t : MT} {elt : ME} {env : Env} {Q : PV → Env → Prop} {α : Type} (k : α → D) (xs : List α) (pb : α → Bool) (fd : α → D)
    (h : W it env fun ds e => ds = xs.map k ∧ (∀ x ∈ xs, WG gg (.d (k x)) (wipeE e (own.map (·.2))) fun e1 => W t e1 fun b e2 => b = pb x ∧ ((pb x = true → W elt e2 fun y e3 => fz y = some (fd x) ∧ wipeE e3 (own.map (·.2)) = wipeE e (own.map (·.2))) ∧ (pb x = false → wipeE e2 (own.map (·.2)) = wipeE e (own.map (·.2))))) ∧ xs.length ≤ 100000 ∧ Q (.new (.lst ((xs.filter pb).map fd))) (restE e (wipeE e (own.map (·.2))) (own.map (·.2)))) : W (mCompN own gg it t elt) env Q := by
  obtain ⟨ds, e, hit, rfl, hx, hl, q⟩ := h
  refine u_comp k xs (fun d acc e' => e' = wipeE e (own.map (·.2)) ∧ acc = (d.filter pb).map fd) ⟨_, e, hit, rfl, ⟨rfl, rfl⟩, ?_, ?_⟩
  · rintro d x r acc e0 hd ⟨rfl, rfl⟩
    have hm : x ∈ xs := by rw [hd]; simp
    obtain ⟨e1, g1, b, e2, g2, rfl, g3, g4⟩ := hx x hm
    have hdl : d.length < xs.length := by rw [hd]; simp
    refine ⟨e1, g1, _, e2, g2, fun hb => ?_, fun hb => ?_⟩
    · obtain ⟨y, e3, k1, k2, k3⟩ := g3 hb
      refine ⟨y, e3, k1, _, k2, ?_, k3, ?_⟩
      · rw [List.length_map]
        have := List.length_filter_le pb d
        omega
      · rw [List.filter_append, List.map_append]
        simp [hb]
    · refine ⟨g4 hb, ?_⟩
      rw [List.filter_append, List.map_append]
      simp [hb]
  · rintro acc e' ⟨rfl, rfl⟩
    exact q
/-- .. a dict of new keys -/
theorem u_dcompW {own : List (Str × Nat)} {g : MG} {it : MI} {ek evv : ME} {env : Env} {Q : PV → Env → Prop} {α : Type} (k : α → D) (xs : List α) (key : α → Key) (val : α → D)
    (h : W it env fun ds e => ds = xs.map k ∧ (∀ x ∈ xs, WG g (.d (k x)) (wipeE e (own.map (·.2))) fun e1 => W ek e1 fun y e2 => ∃ kd, fz y = some kd ∧ keyOf kd = some (key x) ∧ W evv e2 fun z e3 => fz z = some (val x) ∧ wipeE e3 (own.map (·.2)) = wipeE e (own.map (·.2))) ∧ (xs.map key).Nodup ∧ xs.length ≤ 100000 ∧ Q (.new (.dic (xs.map fun x => (key x, val x)))) (restE e (wipeE e (own.map (·.2))) (own.map (·.2)))) : W (mDCompN own g it mYes ek evv) env Q := by
  obtain ⟨ds, e, hit, rfl, hx, nd, hl, q⟩ := h
  have go : ∀ (r : List α) (acc : List (Key × D)), (∀ x ∈ r, x ∈ xs) → (acc.map (·.1) ++ r.map key).Nodup → acc.length + r.length ≤ 100000 → compDL (own.map (·.2)) g mYes ek evv (r.map k) (wipeE e (own.map (·.2))) acc = some (acc ++ r.map fun x => (key x, val x), wipeE e (own.map (·.2))) := by
    intro r
    induction r with
    | nil => intro acc _ _ _; simp [compDL]
    | cons x r ih =>
      intro acc hs hn hz
      obtain ⟨e1, g1, y, e2, g2, kd, g3, g4, z, e3, g5, g6, g7⟩ := hx x (hs x List.mem_cons_self)
      rw [List.length_cons] at hz
      have hn' : key x ∉ acc.map (·.1) := fun hm => (List.nodup_append.mp hn).2.2 _ hm _ (by simp) rfl
      rw [List.map_cons]
      unfold compDL
      simp only [g1, mYes, g2, g3, g4, g5, g6, Option.bind_some, if_true]
      rw [if_pos (by omega), g7, putD_new hn', ih _ (fun y hy => hs y (List.mem_cons_of_mem _ hy)) (by simpa using hn) (by simp; omega)]
      simp
  refine ⟨_, _, ?_, q⟩
  unfold mDCompN mDComp
  rw [hit]
  simp only [Option.bind_some]
  rw [go xs [] (fun _ h => h) (by simpa using nd) (by simpa using hl)]
  simp
/-- a comprehension with two fors, without conditions -/
theorem u_comp2W {own : List (Str × Nat)} {vs1 : List Nat} {g g1 : MG} {it it1 : MI} {elt : ME} {env : Env} {Q : PV → Env → Prop} {α β : Type} (k : α → D) (xs : List α) (k1 : β → D) (ys : α → List β) (fd : α → β → D)
    (h : W it env fun ds e => ds = xs.map k ∧ (∀ x ∈ xs, WG g (.d (k x)) (wipeE e (own.map (·.2))) fun e1 => W it1 e1 fun ds1 e3 => ds1 = (ys x).map k1 ∧ (∀ y ∈ ys x, WG g1 (.d (k1 y)) (wipeE e3 vs1) fun e4 => W elt e4 fun v e6 => fz v = some (fd x y) ∧ wipeE e6 vs1 = wipeE e3 vs1) ∧ wipeE (wipeE e3 vs1) (own.map (·.2)) = wipeE e (own.map (·.2))) ∧ (xs.flatMap ys).length ≤ 100000 ∧ Q (.new (.lst (xs.flatMap fun x => (ys x).map (fd x)))) (restE e (wipeE e (own.map (·.2))) (own.map (·.2)))) : W (mComp2 own vs1 g it mYes g1 it1 mYes elt) env Q := by
  obtain ⟨ds, e, hit, rfl, hx, hl, q⟩ := h
  have inner : ∀ (x : α) (e3 : Env) (r : List β) (acc : List D), (∀ y ∈ r, WG g1 (.d (k1 y)) (wipeE e3 vs1) fun e4 => W elt e4 fun v e6 => fz v = some (fd x y) ∧ wipeE e6 vs1 = wipeE e3 vs1) → acc.length + r.length ≤ 100000 → compL vs1 g1 mYes elt (r.map k1) (wipeE e3 vs1) acc = some (acc ++ r.map (fd x), wipeE e3 vs1) := by
    intro x e3 r
    induction r with
    | nil => intro acc _ _; simp [compL]
    | cons y r ih =>
      intro acc hy hz
      obtain ⟨e4, g4, v, e6, g6, g7, g8⟩ := hy y List.mem_cons_self
      rw [List.length_cons] at hz
      rw [List.map_cons]
      unfold compL
      simp only [g4, mYes, g6, g7, Option.bind_some, if_true]
      rw [if_pos (by omega), g8, ih _ (fun z hz => hy z (List.mem_cons_of_mem _ hz)) (by simp; omega)]
      simp
  have go : ∀ (r : List α) (acc : List D), (∀ x ∈ r, x ∈ xs) → acc.length + (r.flatMap ys).length ≤ 100000 → compM (own.map (·.2)) vs1 g mYes it1 g1 mYes elt (r.map k) (wipeE e (own.map (·.2))) acc = some (acc ++ r.flatMap fun x => (ys x).map (fd x), wipeE e (own.map (·.2))) := by
    intro r
    induction r with
    | nil => intro acc _ _; simp [compM]
    | cons x r ih =>
      intro acc hs hz
      obtain ⟨e1, g1', ds1, e3, g2, rfl, g3, g4⟩ := hx x (hs x List.mem_cons_self)
      rw [List.flatMap_cons, List.length_append] at hz
      rw [List.map_cons]
      unfold compM
      simp only [g1', mYes, Option.bind_some, if_true, g2]
      rw [inner x e3 (ys x) acc g3 (by omega)]
      simp only [Option.bind_some]
      rw [g4, ih _ (fun y hy => hs y (List.mem_cons_of_mem _ hy)) (by rw [List.length_append, List.length_map]; omega)]
      simp
  refine ⟨_, _, ?_, q⟩
  unfold mComp2
  rw [hit]
  simp only [Option.bind_some]
  rw [go xs [] (fun _ h => h) (by simpa using hl)]
  simp
theorem namesD2 {i j : Nat} {p q : D} {e e1 e2 : Env} (h1 : store i (.d p) e = some e1) (h2 : store j (.d q) e1 = some e2) : mNames [i, j] (.d (.tuple [p, q])) e = some e2 := by
  show (store i (.d p) e).bind (stores [j] [.d q]) = some e2
  rw [h1]
  show (store j (.d q) e1).bind (stores [] []) = some e2
  rw [h2]
  rfl
theorem ints_last {zs : List Int} (h : zs ≠ []) : oIx (.d (.list (zs.map .int))) (.d (.int (-1))) = some (.d (.int (zs.getLast h))) := by
  conv => lhs; rw [← List.dropLast_concat_getLast h]
  rw [List.map_append]
  exact ix_last _ _
theorem u_idxL {env : Env} {a b : ME} {Q : PV → Env → Prop} (h : W a env fun x e1 => ∃ ds ys, x = .d (.list ds) ∧ strsOf ds = some ys ∧ W b e1 fun y e2 => ∃ z j, y = .d (.str z) ∧ idxOf ys z = some j ∧ Q (.d (.int (j : Nat))) e2) : W (mIdxL a b) env Q := by
  obtain ⟨x, e1, h1, ds, ys, rfl, h2, y, e2, h3, z, j, rfl, h4, q⟩ := h
  exact ⟨_, e2, by simp only [mIdxL, h1, h2, h3, h4, Option.bind_some], q⟩
theorem eqvAll_ints : ∀ a b : List Int, PyData.eqvAll (a.map .int) (b.map .int) = decide (a = b)
  | [], [] => by simp [PyData.eqvAll]
  | [], _ :: _ => by simp [PyData.eqvAll]
  | _ :: _, [] => by simp [PyData.eqvAll]
  | x :: a, y :: b => by
    simp only [List.map_cons, PyData.eqvAll, PyData.eqv, eqvAll_ints a b]
    by_cases h : x = y <;> simp [h]
theorem o_eqLI {a b : List Int} : oEq (.d (.list (a.map .int))) (.d (.list (b.map .int))) = some (.d (.bool (decide (a = b)))) := by
  have e : PyData.eqv (.list (a.map .int)) (.list (b.map .int)) = decide (a = b) := by simp only [PyData.eqv, eqvAll_ints]
  simp only [oEq, shInts, and_self, if_true, e]
theorem dist_self {zs : List Int} (h : zs.Nodup) : dist zs = zs := by
  have key : ∀ (l acc : List Int), (acc ++ l).Nodup → l.foldl added acc = acc ++ l := by
    intro l
    induction l with
    | nil => intro acc _; simp
    | cons x r ih =>
      intro acc hn
      have hx : x ∉ acc := fun hm => (List.nodup_append.mp hn).2.2 _ hm _ (by simp) rfl
      have ha : added acc x = acc ++ [x] := by simp [added, hx]
      rw [List.foldl_cons, ha, ih _ (by simpa using hn)]
      simp
  have := key zs [] (by simpa using h)
  simpa [dist] using this
theorem o_ssA {zs : List Int} (h : zs.Pairwise (· < ·)) (hl : zs.length ≤ 60) : oSortedI (.d (.list (zs.map .int))) = some (.new (.lst (zs.map .int))) := by
  have nd : zs.Nodup := h.imp fun h => by omega
  have e1 : dist zs = zs := dist_self nd
  have e2 : zs = sortI zs := sortI_of (List.Perm.refl _) (h.imp fun h => by omega)
  show (intsOf (zs.map .int)).bind _ = _
  rw [intsOf_ints, Option.bind_some, e1, if_pos ⟨Nat.lt_of_le_of_lt (by omega : zs.length + 1 ≤ 1001) (by decide +kernel), by omega⟩, ← e2]
end Ol
set_option Elab.async false
set_option linter.all false
set_option maxRecDepth 100000
set_option maxHeartbeats 4000000
namespace Ol
open PySem PySem.Spec PyProof.Rows L2
theorem run_sizes (l : List Str) (es : List Ev) (hz : es.length ≤ 5000) : fn_count_sizes [.d (sD l), .d (lg es)] = some (.new (.lst ((szs l.length es).map .int)), [none, none]) := by
  have loop := forL_run (g := store 3) (body := (mDrop (mMeth 0 2 fAppend (mCons (m2 oAdd (m2 oIx (mVar 2) (m1 oNeg (mC (.int 1)))) (mIf (mTest (m2 oEq (m2 oIx (mVar 3) (mC (.int 0))) (mC (.str "in")))) (mC (.int 1)) (m1 oNeg (mC (.int 1))))) mNil)))) ev
    (fun d => [some (.d (sD l)), some (.d (lg es)), some (.own false (.lst ((szs l.length d).map .int))), d.getLast?.map fun x => .d (ev x)]) es [] (fun d x r hd => by
      obtain ⟨pre, hp⟩ := szs_last l.length d
      have hl : pre.length + 1 < 100000 := by
        have h1 := congrArg List.length hp
        rw [szs_len] at h1
        have := congrArg List.length hd
        simp at this h1
        omega
      rw [szs_snoc, endN_snoc]
      cases x <;> simp [hp, ev, ix_last, dl, hl])
  simp [fn_count_sizes, runFn, m_count_sizes, mFor]
  simp at loop
  have e0 : (szs (↑l.length) []) = [↑l.length] := rfl
  rw [e0] at loop
  simp at loop
  rw [loop]
  simp
def letB (c : Nat) : Bool := !(Builtin.Str.occurrences ("abcdefghijklmnopqrstuvwxyz" : Str) ⟨#[c]⟩ 0 (Str.length "abcdefghijklmnopqrstuvwxyz") 1).isEmpty
def carB (x : Str) : Bool := decide (1 ≤ x.length) && decide (x.length ≤ 4) && x.cps.toList.all letB
theorem run_is_car (x : Str) (h : carB x = true) : fn_is_car [.d (.str x)] = some (.d (.bool true), [none]) := by
  simp only [carB, Bool.and_eq_true, decide_eq_true_eq] at h
  obtain ⟨⟨h1, h2⟩, h3⟩ := h
  have comp := comp_all (own := [("letter", 1)]) (g := store 1) (it := mIter (mVar 0)) (elt := (m2 (oIn false) (mVar 1) (mC (.str "abcdefghijklmnopqrstuvwxyz")))) (env := [some (.d (.str x)), none]) (env1 := [some (.d (.str x)), none]) (e := [some (.d (.str x)), none])
    (fun c : Nat => .str ⟨#[c]⟩) x.cps.toList (fun c => [some (.d (.str x)), some (.d (.str ⟨#[c]⟩))]) (fun c => .bool (letB c)) (by simp) (by simp [wipeE]) (by simp [restE]) (by simp) (by simp [wipeE, oIn, letB]) (by
      have : x.cps.toList.length = x.length := by simp [Str.length]
      omega)
  have hb : (x.cps.toList.map letB).all id = true := by simpa using h3
  simp [fn_is_car, runFn, m_is_car, h1, h2, comp, boolsOf_map, hb, show x.length ≤ 100000 by omega, show (1 : Int) ≤ (x.length : Int) by omega, show (x.length : Int) ≤ 4 by omega]
/-! calls -/
theorem run_is_lane (l : List Str) (h : ∀ x ∈ l, carB x = true) (hn : l.Nodup) (hz : l.length ≤ 4000) : fn_is_lane [.d (sD l)] = some (.d (.bool true), [none]) := by
  have comp := comp_all (own := [("car", 1)]) (g := store 1) (it := mIter (mVar 0)) (elt := (mCall [false] fn_is_car (mCons (mVar 1) mNil))) (env := [some (.d (sD l)), none]) (env1 := [some (.d (sD l)), none]) (e := [some (.d (sD l)), none])
    PyData.str l (fun c => [some (.d (sD l)), some (.d (.str c))]) (fun c => .bool true) (by simp) (by simp [wipeE]) (by simp [restE]) (by simp) (fun x hx => by simp [wipeE, mCall, fzIO, pars, par, okSlots, putOuts, run_is_car x (h x hx)]) (by omega)
  simp [fn_is_lane, runFn, m_is_lane, comp, boolsOf_map (fun _ : Str => true), keysOf_strs, dist_strs hn, show l.length + 1 < scanBound by show l.length + 1 < 4096; omega]
theorem run_check_lane (l : List Str) (h : ∀ x ∈ l, carB x = true) (hn : l.Nodup) (hz : l.length ≤ 4000) : fn_check_lane [.d (sD l)] = some (.d .none, [none]) := by
  simp [fn_check_lane, runFn, m_check_lane, mCall, fzIO, pars, par, okSlots, putOuts, run_is_lane l h hn hz]
theorem run_is_arrival (x : Ev) (h : ∀ c, x = some c → carB c = true) : fn_is_arrival [.d (ev x)] = some (.d (.bool x.isSome), [none]) := by
  cases x with
  | none => simp [fn_is_arrival, runFn, m_is_arrival, ev]
  | some c => simp [fn_is_arrival, runFn, m_is_arrival, ev, mCall, fzIO, pars, par, okSlots, putOuts, run_is_car c (h c rfl)]
theorem run_is_departure (x : Ev) : fn_is_departure [.d (ev x)] = some (.d (.bool x.isNone), [none]) := by
  cases x with
  | none => simp [fn_is_departure, runFn, m_is_departure, ev]
  | some c => simp [fn_is_departure, runFn, m_is_departure, ev]
/-- a log that is one for the lane -/
structure LogOk (l : List Str) (es : List Ev) : Prop where
  cars : ∀ c, some c ∈ es → carB c = true
  nd : (l ++ es.filterMap id).Nodup
  room : ∀ d r, es = d ++ none :: r → 0 < endN l.length d
  len : es.length ≤ 2000
theorem run_is_log (l : List Str) (es : List Ev) (hz : l.length ≤ 2000) (ok : LogOk l es) : fn_is_log_for [.d (sD l), .d (lg es)] = some (.d (.bool true), [none, none]) := by
  have loop := forL_run (g := store 4) (body := (mIfS (mAndT (mTru (mCall [false] fn_is_arrival (mCons (mVar 4) mNil))) (mTest (m2 (oIn true) (m2 oIx (mVar 4) (mC (.int 1))) (mVar 2)))) (mSeq (mDrop (mMeth 1 2 fAdd (mCons (m2 oIx (mVar 4) (mC (.int 1))) mNil))) (mAug 3 oIAdd (mC (.int 1)))) (mIfS (mAndT (mTru (mCall [false] fn_is_departure (mCons (mVar 4) mNil))) (mTest (m2 oGt (mVar 3) (mC (.int 0))))) (mAug 3 oSub (mC (.int 1))) (mRet (mC (.bool false)))))) ev
    (fun d => [some (.d (sD l)), some (.d (lg es)), some (.own false (.set ((l ++ d.filterMap id).map Sum.inr))), some (.d (.int (endN l.length d))), d.getLast?.map fun x => .d (ev x)]) es [] (fun d x r hd => by
      rw [List.nil_append] at hd
      have hlen : d.length < es.length := by rw [hd]; simp
      have hb : (dist ((l ++ d.filterMap id).map (Sum.inr : Str → Key))).length + 1 < scanBound := by
        have h1 := dist_len ((l ++ d.filterMap id).map (Sum.inr : Str → Key))
        have h2 := List.length_filterMap_le id d
        have h3 := ok.len
        rw [List.length_map, List.length_append] at h1
        show _ < 4096
        omega
      cases x with
      | none =>
        have hp := ok.room d r hd
        simp [endN_snoc, mCall, fzIO, pars, par, okSlots, putOuts, run_is_arrival none (by simp), run_is_departure none, hp, dl]
        omega
      | some c =>
        have hc : c ∉ l ++ d.filterMap id := by
          have z := ok.nd
          rw [hd, List.filterMap_append, ← List.append_assoc] at z
          intro hm
          exact (List.nodup_append.mp z).2.2 c hm c (by simp) rfl
        have e1 := run_is_arrival (some c) (fun c' e => by cases e; exact ok.cars c (by rw [hd]; simp))
        have e2 := in_set c (l ++ d.filterMap id) true
        rw [show decide (c ∈ l ++ d.filterMap id) = false by simpa using hc] at e2
        simp only [List.map_append] at e2 hb
        have e1' : fn_is_arrival [.d (.tuple [.str "in", .str c])] = some (.d (.bool true), [none]) := e1
        simp [endN_snoc, mCall, fzIO, pars, par, okSlots, putOuts, e1', dl, e2, fAdd, keyOf, hb, ev])
  have e0 : endN (l.length : Int) [] = l.length := rfl
  simp only [List.nil_append, List.filterMap_nil, List.append_nil, e0, List.getLast?_nil, Option.map_none] at loop
  simp only [oIAdd, oGt, oSub] at loop
  simp [fn_is_log_for, runFn, m_is_log_for, mFor, loop, keysOf_strs, show l.length + 1 < scanBound by show l.length + 1 < 4096; omega]
theorem run_check_log (l : List Str) (es : List Ev) (h : ∀ x ∈ l, carB x = true) (hn : l.Nodup) (hz : l.length ≤ 2000) (ok : LogOk l es) : fn_check_log [.d (sD l), .d (lg es)] = some (.d .none, [none, none]) := by
  simp [fn_check_log, runFn, m_check_log, mCall, fzIO, pars, par, okSlots, putOuts, run_check_lane l h hn (by omega), run_is_log l es hz ok]
end Ol
set_option Elab.async false
set_option linter.all false
set_option maxRecDepth 100000
set_option maxHeartbeats 4000000
namespace Ol
open PySem PySem.Spec PyProof.Rows L2
abbrev arr (es : List Ev) : List Str := es.filterMap id
/-- [event[1] for event in log if event[0] == 'in'] -/
theorem filt_arr (es : List Ev) : (es.filter Option.isSome).map (fun x : Ev => PyData.str (x.getD ⟨#[]⟩)) = (arr es).map .str := by
  induction es with
  | nil => rfl
  | cons x r ih => cases x <;> simp [ih]
def knd (l : List Str) (es : List Ev) : List (Key × D) := ((l ++ arr es).zipIdx).map fun p => (Sum.inr p.1, .int (p.2 : Nat))
theorem knd_has (l : List Str) (es : List Ev) (x : Str) : hasK (knd l es) (.inr x) = decide (x ∈ l ++ arr es) := by
  unfold knd
  rw [hasK_map, Bool.eq_iff_iff]
  have e : ((l ++ arr es).zipIdx.map fun p => (Sum.inr p.1 : Key)) = (l ++ arr es).map Sum.inr := map_zip _ _ _
  rw [e]
  simp [memb]
theorem run_numbers (l : List Str) (es : List Ev) (nd : (l ++ arr es).Nodup) (h1 : l.length ≤ 2000) (h2 : es.length ≤ 2000) : fn_car_numbers [.d (sD l), .d (lg es)] = some (.new (.dic (knd l es)), [none, none]) := by
  have comp := comp_pure (own := [("event", 5)]) (g := store 5) (it := mIter (mVar 1)) (c := (mTest (m2 oEq (m2 oIx (mVar 5) (mC (.int 0))) (mC (.str "in"))))) (elt := (m2 oIx (mVar 5) (mC (.int 1)))) (env := [some (.d (sD l)), some (.d (lg es)), none, none, none, none]) (env1 := [some (.d (sD l)), some (.d (lg es)), none, none, none, none]) (e := [some (.d (sD l)), some (.d (lg es)), none, none, none, none])
    ev es (fun x => [some (.d (sD l)), some (.d (lg es)), none, none, none, some (.d (ev x))]) Option.isSome (fun x => .str (x.getD ⟨#[]⟩)) (by simp) (by simp [wipeE]) (by simp [restE]) (by simp) (fun x _ => by cases x <;> simp [ev]) (fun x _ hx => by cases x <;> simp [ev, wipeE] at hx ⊢) (by simp [wipeE]) (by omega)
  rw [filt_arr] at comp
  have hl : (arr es).length ≤ 2000 := Nat.le_trans (List.length_filterMap_le id es) h2
  have dc := dcomp_new (own := [("number", 3), ("car", 4)]) (g := mNames [3, 4]) (it := mEnum (mCons (mVar 2) mNil)) (ek := mVar 4) (evv := mVar 3) (env := [some (.d (sD l)), some (.d (lg es)), some (.d (.list ((l ++ arr es).map .str))), none, none, none]) (env1 := [some (.d (sD l)), some (.d (lg es)), some (.d (.list ((l ++ arr es).map .str))), none, none, none]) (e := [some (.d (sD l)), some (.d (lg es)), some (.d (.list ((l ++ arr es).map .str))), none, none, none])
    (fun p : Str × Nat => .tuple [.int (p.2 : Nat), .str p.1]) ((l ++ arr es).zipIdx) (fun p => [some (.d (sD l)), some (.d (lg es)), some (.d (.list ((l ++ arr es).map .str))), some (.d (.int (p.2 : Nat))), some (.d (.str p.1)), none]) (fun p => .inr p.1) (fun p => .int (p.2 : Nat)) (by
      have z := enumD_map PyData.str (l ++ arr es) 0
      simp [z]
      simpa using z) (by simp [wipeE]) (by simp [restE]) (by simp) (by simp [wipeE, keyOf]) (by
      have e : ((l ++ arr es).zipIdx.map fun p => (Sum.inr p.1 : Key)) = (l ++ arr es).map Sum.inr := map_zip _ _ _
      rw [e]
      exact List.Pairwise.map _ (fun a b h z => h (Sum.inr.inj z)) nd) (by simp; omega)
  simp only [List.map_append] at dc
  simp [fn_car_numbers, runFn, m_car_numbers, comp, show l.length + (arr es).length ≤ 100000 by omega, dc, knd]
end Ol
set_option Elab.async false
set_option linter.all false
set_option maxRecDepth 100000
set_option maxHeartbeats 4000000
namespace Ol
open PySem PySem.Spec PyProof.Rows L2
/-- a tuple of known cars -/
structure CarsOk (l : List Str) (es : List Ev) (cs : List Str) : Prop where
  car : ∀ c ∈ cs, carB c = true
  nd : cs.Nodup
  known : ∀ c ∈ cs, c ∈ l ++ arr es
  len : cs.length ≤ 3000
theorem run_check_cars (l : List Str) (es : List Ev) (cs : List Str) (h1 : l.length ≤ 2000) (ok : LogOk l es) (ck : CarsOk l es cs) : fn_check_cars [.d (sD l), .d (lg es), .d (sD cs)] = some (.d .none, [none, none, none]) := by
  have c1 := comp_all (own := [("car", 4)]) (g := store 4) (it := mIter (mVar 2)) (elt := (mCall [false] fn_is_car (mCons (mVar 4) mNil))) (env := [some (.d (sD l)), some (.d (lg es)), some (.d (sD cs)), none, none]) (env1 := [some (.d (sD l)), some (.d (lg es)), some (.d (sD cs)), none, none]) (e := [some (.d (sD l)), some (.d (lg es)), some (.d (sD cs)), none, none])
    PyData.str cs (fun c => [some (.d (sD l)), some (.d (lg es)), some (.d (sD cs)), none, some (.d (.str c))]) (fun c => .bool true) (by simp) (by simp [wipeE]) (by simp [restE]) (by simp) (fun x hx => by simp [wipeE, mCall, fzIO, pars, par, okSlots, putOuts, run_is_car x (ck.car x hx)]) (by have := ck.len; omega)
  have c2 := comp_all (own := [("car", 4)]) (g := store 4) (it := mIter (mVar 2)) (elt := (m2 (oIn false) (mVar 4) (mVar 3))) (env := [some (.d (sD l)), some (.d (lg es)), some (.d (sD cs)), some (.own false (.dic (knd l es))), none]) (env1 := [some (.d (sD l)), some (.d (lg es)), some (.d (sD cs)), some (.own false (.dic (knd l es))), none]) (e := [some (.d (sD l)), some (.d (lg es)), some (.d (sD cs)), some (.own false (.dic (knd l es))), none])
    PyData.str cs (fun c => [some (.d (sD l)), some (.d (lg es)), some (.d (sD cs)), some (.own false (.dic (knd l es))), some (.d (.str c))]) (fun c => .bool true) (by simp) (by simp [wipeE]) (by simp [restE]) (by simp) (fun x hx => by
      have k := knd_has l es x
      rw [decide_eq_true (ck.known x hx)] at k
      simp [wipeE, k]) (by have := ck.len; omega)
  have hl := ck.len
  simp [fn_check_cars, runFn, m_check_cars, c1, c2, boolsOf_map (fun _ : Str => true), keysOf_strs, dist_strs ck.nd, mCall, fzIO, pars, par, okSlots, putOuts, run_numbers l es ok.nd h1 ok.len, show cs.length + 1 < scanBound by show cs.length + 1 < 4096; omega]
theorem run_check_all (l : List Str) (es : List Ev) (cs : List Str) (hc : ∀ x ∈ l, carB x = true) (hn : l.Nodup) (h1 : l.length ≤ 2000) (ok : LogOk l es) (ck : CarsOk l es cs) : fn_check_all [.d (sD l), .d (lg es), .d (sD cs)] = some (.d .none, [none, none, none]) := by
  simp [fn_check_all, runFn, m_check_all, mCall, fzIO, pars, par, okSlots, putOuts, run_check_lane l hc hn (by omega), run_check_log l es hc hn h1 ok, run_check_cars l es cs h1 ok ck]
/-- the event brings a car of cs -/
def inC (cs : List Str) : Ev → Bool
  | none => false
  | some c => decide (c ∈ cs)
def posP (es : List Ev) (cs : List Str) : List Nat := (es.zipIdx.filter fun p => inC cs p.1).map (·.2)
theorem run_positions (es : List Ev) (cs : List Str) (h2 : es.length ≤ 2000) : fn_arriving_positions [.d (lg es), .d (sD cs)] = some (.new (.lst ((posP es cs).map fun i => .int (i : Nat))), [none, none]) := by
  have comp := comp_pure (own := [("position", 2), ("event", 3)]) (g := mNames [2, 3]) (it := (mEnum (mCons (mVar 0) mNil))) (c := (mAndT (mTest (m2 oEq (m2 oIx (mVar 3) (mC (.int 0))) (mC (.str "in")))) (mTest (m2 (oIn false) (m2 oIx (mVar 3) (mC (.int 1))) (mVar 1))))) (elt := mVar 2) (env := [some (.d (lg es)), some (.d (sD cs)), none, none]) (env1 := [some (.d (lg es)), some (.d (sD cs)), none, none]) (e := [some (.d (lg es)), some (.d (sD cs)), none, none])
    (fun p : Ev × Nat => .tuple [.int (p.2 : Nat), ev p.1]) (es.zipIdx) (fun p => [some (.d (lg es)), some (.d (sD cs)), some (.d (.int (p.2 : Nat))), some (.d (ev p.1))]) (fun p => inC cs p.1) (fun p => .int (p.2 : Nat)) (by simp [enumD_map]) (by simp [wipeE]) (by simp [restE]) (by simp) (fun p _ => by
      obtain ⟨x, i⟩ := p
      cases x <;> simp [ev, inC]) (fun p _ _ => by simp [wipeE]) (by simp [wipeE]) (by simp; omega)
  simp [fn_arriving_positions, runFn, m_arriving_positions, comp, posP]
/-- departures, counted -/
def dep : Ev → Int
  | none => 1
  | some _ => 0
def depN (es : List Ev) : Int := es.foldl (fun a e => a + dep e) 0
theorem depN_snoc (es : List Ev) (x : Ev) : depN (es ++ [x]) = depN es + dep x := by simp [depN]
def deps (es : List Ev) : List Int := (List.range (es.length + 1)).map fun i => depN (es.take i)
theorem deps_snoc (es : List Ev) (x : Ev) : deps (es ++ [x]) = deps es ++ [depN (es ++ [x])] := by
  unfold deps
  rw [List.length_append, List.length_singleton, List.range_succ, List.map_append]
  congr 1
  · apply List.map_congr_left
    intro i hi
    rw [List.mem_range] at hi
    rw [List.take_append_of_le_length (by omega)]
  · simp [List.take_of_length_le]
theorem deps_last (es : List Ev) : ∃ pre, deps es = pre ++ [depN es] := by
  unfold deps
  rw [List.range_succ, List.map_append]
  exact ⟨(List.range es.length).map fun i => depN (es.take i), by simp⟩
theorem run_departures (es : List Ev) (hz : es.length ≤ 5000) : fn_count_departures [.d (lg es)] = some (.new (.lst ((deps es).map .int)), [none]) := by
  have loop := forL_run (g := store 2) (body := (mDrop (mMeth 0 1 fAppend (mCons (m2 oAdd (m2 oIx (mVar 1) (m1 oNeg (mC (.int 1)))) (mB oInt (mCons (m2 oEq (m2 oIx (mVar 2) (mC (.int 0))) (mC (.str "out"))) mNil))) mNil)))) ev
    (fun d => [some (.d (lg es)), some (.own false (.lst ((deps d).map .int))), d.getLast?.map fun x => .d (ev x)]) es [] (fun d x r hd => by
      obtain ⟨pre, hp⟩ := deps_last d
      have hl : pre.length + 1 < 100000 := by
        have h1 := congrArg List.length hp
        have := congrArg List.length hd
        simp [deps] at this h1
        omega
      rw [deps_snoc, depN_snoc]
      cases x <;> simp [hp, ev, ix_last, dep, hl])
  have e0 : deps [] = [0] := rfl
  simp at loop
  rw [e0] at loop
  simp at loop
  simp [fn_count_departures, runFn, m_count_departures, mFor, loop]
end Ol
set_option Elab.async false
set_option linter.all false
set_option maxRecDepth 100000
set_option maxHeartbeats 4000000
namespace Ol
open PySem PySem.Spec PyProof.Rows L2
def nIn (l cs : List Str) : Nat := (l.filter fun c => decide (c ∈ cs)).length
/-- stayers counted behind i events -/
def stayN (l : List Str) (es : List Ev) (cs : List Str) (i : Nat) : Int := (nIn l cs : Nat) + ((es.take i).filter (inC cs)).length
def shortP (l : List Str) (es : List Ev) (cs : List Str) (i : Nat) : Bool := decide (stayN l es cs i > endN l.length (es.take i))
def shortAt (l : List Str) (es : List Ev) (cs : List Str) : Option Nat := (List.range' 0 (es.length + 1)).find? (shortP l es cs)
def oNat : Option Nat → D
  | none => .none
  | some i => .int (i : Nat)
theorem stayN_succ (l : List Str) (es : List Ev) (cs : List Str) (i : Nat) (x : Ev) (h : es[i]? = some x) : stayN l es cs (i + 1) = stayN l es cs i + if inC cs x then 1 else 0 := by
  unfold stayN
  rw [List.take_add_one, h]
  simp only [Option.toList_some, List.filter_append, List.length_append]
  cases q : inC cs x <;> simp [List.filter_cons, q] <;> omega
theorem run_shortage (l : List Str) (es : List Ev) (cs : List Str) (h1 : l.length ≤ 2000) (h2 : es.length ≤ 2000) : fn_first_shortage [.d (sD l), .d (lg es), .d (sD cs)] = some (.d (oNat (shortAt l es cs)), [none, none, none]) := by
  have comp := comp_pure (own := [("car", 6)]) (g := store 6) (it := mIter (mVar 0)) (c := (mTest (m2 (oIn false) (mVar 6) (mVar 2)))) (elt := mVar 6) (env := [some (.d (sD l)), some (.d (lg es)), some (.d (sD cs)), none, none, none, none]) (env1 := [some (.d (sD l)), some (.d (lg es)), some (.d (sD cs)), none, none, none, none]) (e := [some (.d (sD l)), some (.d (lg es)), some (.d (sD cs)), none, none, none, none])
    PyData.str l (fun c => [some (.d (sD l)), some (.d (lg es)), some (.d (sD cs)), none, none, none, some (.d (.str c))]) (fun c => decide (c ∈ cs)) PyData.str (by simp) (by simp [wipeE]) (by simp [restE]) (by simp) (by simp) (by simp [wipeE]) (by simp [wipeE]) (by omega)
  -- the slots ahead of turn i
  let I : Nat → Env := fun i => match i with
    | 0 => [some (.d (sD l)), some (.d (lg es)), some (.d (sD cs)), some (.d (.int (nIn l cs : Nat))), none, none, none]
    | i + 1 => [some (.d (sD l)), some (.d (lg es)), some (.d (sD cs)), some (.d (.int (stayN l es cs i))), some (.d (.int (i : Nat))), some (.d (.int (endN l.length (es.take i)))), none]
  have loop := forL_find (g := mNames [4, 5]) (body := (mSeq (mIfS (mAndT (mTest (m2 oGt (mVar 4) (mC (.int 0)))) (mAndT (mTest (m2 oEq (m2 oIx (m2 oIx (mVar 1) (m2 oSub (mVar 4) (mC (.int 1)))) (mC (.int 0))) (mC (.str "in")))) (mTest (m2 (oIn false) (m2 oIx (m2 oIx (mVar 1) (m2 oSub (mVar 4) (mC (.int 1)))) (mC (.int 1))) (mVar 2))))) (mAug 3 oIAdd (mC (.int 1))) mSkip) (mIfS (mTest (m2 oGt (mVar 3) (mVar 5))) (mRet (mVar 4)) mSkip)))
    (fun i => .tuple [.int (i : Nat), .int (endN l.length (es.take i))]) I (shortP l es cs) (fun i => .d (.int (i : Nat))) (fun i => I (i + 1)) (es.length + 1) 0 (fun i _ hi => by
      cases i with
      | zero =>
        have e0 : stayN l es cs 0 = (nIn l cs : Nat) := by simp [stayN]
        by_cases c : stayN l es cs 0 > endN l.length (es.take 0)
        · have c' := c
          rw [e0] at c'
          simp [I, shortP, c, e0] at c' ⊢
        · have c' := c
          rw [e0] at c'
          simp [I, shortP, c, e0] at c' ⊢
      | succ i =>
        have hi' : i < es.length := by omega
        obtain ⟨x, hx⟩ : ∃ x, es[i]? = some x := ⟨_, List.getElem?_eq_getElem hi'⟩
        have hix := ix_nat (es.map ev) i (ev x) (by rw [List.getElem?_map, hx]; rfl)
        have e1 := stayN_succ l es cs i x hx
        have hp : (0 : Int) < (i : Int) + 1 := by omega
        have e3 : (i : Int) + 1 - 1 = i := by omega
        cases x with
        | none =>
          simp only [inC, Bool.false_eq_true, if_false, Int.add_zero] at e1
          by_cases c : stayN l es cs (i + 1) > endN l.length (es.take (i + 1))
          · have c' := c
            rw [e1] at c'
            simp [I, shortP, c, e1, hix, hp, e3, ev, c']
          · have c' := c
            rw [e1] at c'
            simp [I, shortP, c, e1, hix, hp, e3, ev, c']
        | some a =>
          by_cases m : a ∈ cs
          · simp only [inC, m, decide_true, if_true] at e1
            by_cases c : stayN l es cs (i + 1) > endN l.length (es.take (i + 1))
            · have c' := c
              rw [e1] at c'
              simp [I, shortP, c, e1, hix, hp, e3, ev, c', m]
            · have c' := c
              rw [e1] at c'
              simp [I, shortP, c, e1, hix, hp, e3, ev, c', m]
          · simp only [inC, m, decide_false, Bool.false_eq_true, if_false, Int.add_zero] at e1
            by_cases c : stayN l es cs (i + 1) > endN l.length (es.take (i + 1))
            · have c' := c
              rw [e1] at c'
              simp [I, shortP, c, e1, hix, hp, e3, ev, c', m]
            · have c' := c
              rw [e1] at c'
              simp [I, shortP, c, e1, hix, hp, e3, ev, c', m])
  have en : (szs l.length es).map PyData.int = (List.range' 0 (es.length + 1)).map fun i => .int (endN l.length (es.take i)) := by rw [szs_range, List.map_map]; rfl
  have e2 := enumD_range (fun i => .int (endN l.length (es.take i))) (es.length + 1) 0
  rw [← en] at e2
  simp only [oIAdd, oGt, oSub, I, nIn] at loop
  simp [fn_first_shortage, runFn, m_first_shortage, comp, mFor, mCall, fzIO, pars, par, okSlots, putOuts, nlP, nlM, run_sizes l es (by omega), e2, nIn]
  rw [loop]
  unfold shortAt
  cases List.find? (shortP l es cs) (List.range' 0 (es.length + 1)) <;> simp [oNat]
def plc (l cs : List Str) : List Nat := (l.zipIdx.filter fun p => decide (p.1 ∈ cs)).map (·.2)
theorem plc_lt {l cs : List Str} {p : Nat} (h : p ∈ plc l cs) : p < l.length := by
  unfold plc at h
  obtain ⟨⟨x, i⟩, h1, rfl⟩ := List.mem_map.mp h
  have h2 := (List.mem_filter.mp h1).1
  have := List.mem_zipIdx' h2
  exact this.1
/-- what set_reason answers -/
def setR (l : List Str) (es : List Ev) (cs : List Str) : D :=
  if (cs.length : Int) ≠ endN l.length es then .tuple [.str "size", .int (endN l.length es)]
  else match shortAt l es cs with
    | some i => .tuple [.str "moment", .int (i : Nat)]
    | none => match plc l cs with
      | [] => .none
      | p0 :: ps => match ((l.drop p0).take ((p0 :: ps).getLast (by simp) - p0)).find? fun c => decide (c ∉ cs) with
        | some c => .tuple [.str "block", .str c]
        | none => match posP es cs with
          | [] => .none
          | q :: _ => if depN (es.take q) < (if (l.length : Int) - ((p0 :: ps).getLast (by simp) : Nat) - 1 < (p0 : Nat) then (l.length : Int) - ((p0 :: ps).getLast (by simp) : Nat) - 1 else (p0 : Nat)) then
              .tuple [.str "sides", .int (p0 : Nat), .int ((l.length : Int) - ((p0 :: ps).getLast (by simp) : Nat) - 1), .int (depN (es.take q))] else .none
theorem szs_ix (l : List Str) (es : List Ev) : oIx (.d (.list ((szs l.length es).map .int))) (.d (.int (-1))) = some (.d (.int (endN l.length es))) := by
  obtain ⟨pre, hp⟩ := szs_last l.length es
  rw [hp, List.map_append]
  exact ix_last _ _
theorem forL_none {g : MG} {body : MS} {α : Type} (c : α → D) (I : List α → Env) (P : α → Bool) (v : α → PV) (ve : List α → α → Env) : ∀ (xs done : List α), (∀ (d : List α) (x : α) (r : List α), done ++ xs = d ++ x :: r → (g (.d (c x)) (I d)).bind body = if P x = true then some (.ret (v x) (ve d x)) else some (.nx (I (d ++ [x])))) →
    (∀ x, xs.find? P = some x → ∃ e, forL g body (xs.map c) (I done) = some (.ret (v x) e)) ∧ (xs.find? P = none → forL g body (xs.map c) (I done) = some (.nx (I (done ++ xs))))
  | [], done, _ => ⟨(fun x h => by cases h), fun _ => by rw [List.append_nil]; rfl⟩
  | x :: r, done, h => by
    have h1 := h done x r rfl
    have ih := forL_none c I P v ve r (done ++ [x]) (fun d y s hd => h d y s (by rw [← hd]; simp))
    rw [List.map_cons]
    unfold forL
    cases z : g (.d (c x)) (I done) with
    | none => rw [z] at h1; cases q : P x <;> rw [q] at h1 <;> cases h1
    | some e1 =>
      rw [z] at h1
      have h2 : body e1 = if P x = true then some (.ret (v x) (ve done x)) else some (.nx (I (done ++ [x]))) := h1
      simp only [Option.bind_some]
      rw [h2]
      cases q : P x with
      | true => simp [List.find?_cons, q]
      | false =>
        simp only [List.find?_cons, q, Bool.false_eq_true, if_false, Option.bind_some]
        rw [show done ++ x :: r = (done ++ [x]) ++ r by simp]
        exact ih
end Ol
set_option Elab.async false
set_option linter.all false
set_option maxRecDepth 100000
set_option maxHeartbeats 4000000
namespace Ol
open PySem PySem.Spec PyProof.Rows L2
theorem sIx_nat (n d k : Nat) (h : k ≤ n) : HT.sIx n d (some ((k : Nat) : Int)) = k := by
  rw [HT.sIx_nat]; omega
theorem deps_ix (es : List Ev) (i : Nat) (h : i ≤ es.length) : oIx (.d (.list ((deps es).map .int))) (.d (.int (i : Nat))) = some (.d (.int (depN (es.take i)))) := by
  refine ix_nat _ i _ ?_
  rw [List.getElem?_map]
  unfold deps
  rw [List.getElem?_map, List.getElem?_range (by omega)]
  rfl
theorem posP_lt {es : List Ev} {cs : List Str} {p : Nat} (h : p ∈ posP es cs) : p < es.length := by
  unfold posP at h
  obtain ⟨⟨x, i⟩, h1, rfl⟩ := List.mem_map.mp h
  have h2 := (List.mem_filter.mp h1).1
  exact (List.mem_zipIdx' h2).1
@[simp] theorem eqE {x : D} {xs : List D} : PyData.eqv (.list (x :: xs)) (.list []) = false := by simp [PyData.eqv, PyData.eqvAll]
@[simp] theorem eqE0 : PyData.eqv (.list []) (.list []) = true := by simp [PyData.eqv, PyData.eqvAll]
theorem shNats : ∀ l : List Nat, SeqAt.shaped (.list (l.map fun i => .int (i : Nat))) = true := by
  intro l
  have h1 : PyData.canLayAll0 (l.map fun i : Nat => PyData.int (i : Nat)) = true := by
    induction l with
    | nil => rfl
    | cons a r ih => simp [PyData.canLayAll0, PyData.canLay0, ih]
  have h2 : PyData.depthAll (l.map fun i : Nat => PyData.int (i : Nat)) = 0 := by
    induction l with
    | nil => rfl
    | cons a r ih => simp [PyData.depthAll, PyData.depth]; simpa [PyData.canLayAll0, PyData.canLay0] using ih (by simp [PyData.canLayAll0, PyData.canLay0] at h1; exact h1)
  simp [SeqAt.shaped, PyData.canLay0, PyData.depth, h1, h2]
@[simp] theorem shE : SeqAt.shaped (.list []) = true := by simp [SeqAt.shaped, PyData.canLay0, PyData.depth, PyData.canLayAll0, PyData.depthAll]
theorem cut_eq (l : List Str) (a b : Nat) (h1 : a ≤ l.length) (h2 : b ≤ l.length) : cutD (l.map PyData.str) (some (a : Nat)) (some (b : Nat)) = ((l.drop a).take (b - a)).map PyData.str := by
  unfold cutD
  rw [List.length_map, sIx_nat _ _ _ h1, sIx_nat _ _ _ h2, List.map_take, List.map_drop]
theorem nats_last (l : List Nat) (h : l ≠ []) : oIx (.d (.list (l.map fun i => .int (i : Nat)))) (.d (.int (-1))) = some (.d (.int (l.getLast h : Nat))) := by
  conv => lhs; rw [← List.dropLast_concat_getLast h]
  rw [List.map_append]
  exact ix_last _ _
theorem run_set_reason (l : List Str) (es : List Ev) (cs : List Str) (h1 : l.length ≤ 2000) (h2 : es.length ≤ 2000) : fn_set_reason [.d (sD l), .d (lg es), .d (sD cs)] = some (.d (setR l es cs), [none, none, none]) := by
  have comp : ∀ (m : SV), mCompN [("place", 11), ("car", 7)] (mNames [11, 7]) (mEnum (mCons (mVar 0) mNil)) (mTest (m2 (oIn false) (mVar 7) (mVar 2))) (mVar 11) [some (.d (sD l)), some (.d (lg es)), some (.d (sD cs)), some (.d (.int (endN l.length es))), some m, none, none, none, none, none, none, none] =
      some (.new (.lst ((plc l cs).map fun i => .int (i : Nat))), [some (.d (sD l)), some (.d (lg es)), some (.d (sD cs)), some (.d (.int (endN l.length es))), some m, none, none, none, none, none, none, none]) := fun m => by
    have z := comp_pure (own := [("place", 11), ("car", 7)]) (g := mNames [11, 7]) (it := (mEnum (mCons (mVar 0) mNil))) (c := (mTest (m2 (oIn false) (mVar 7) (mVar 2)))) (elt := mVar 11) (env := [some (.d (sD l)), some (.d (lg es)), some (.d (sD cs)), some (.d (.int (endN l.length es))), some m, none, none, none, none, none, none, none]) (env1 := [some (.d (sD l)), some (.d (lg es)), some (.d (sD cs)), some (.d (.int (endN l.length es))), some m, none, none, none, none, none, none, none]) (e := [some (.d (sD l)), some (.d (lg es)), some (.d (sD cs)), some (.d (.int (endN l.length es))), some m, none, none, none, none, none, none, none])
      (fun p : Str × Nat => .tuple [.int (p.2 : Nat), .str p.1]) (l.zipIdx) (fun p => [some (.d (sD l)), some (.d (lg es)), some (.d (sD cs)), some (.d (.int (endN l.length es))), some m, none, none, some (.d (.str p.1)), none, none, none, some (.d (.int (p.2 : Nat)))]) (fun p => decide (p.1 ∈ cs)) (fun p => .int (p.2 : Nat)) (by simp [enumD_map]) (by simp [wipeE]) (by simp [restE]) (by simp) (by simp) (by simp [wipeE]) (by simp [wipeE]) (by simp; omega)
    rw [z]
    simp [plc]
  have s1 := run_sizes l es (by omega)
  have s2 := szs_ix l es
  have s3 := run_shortage l es cs h1 h2
  have s4 := run_positions es cs h2
  have s5 := run_departures es (by omega)
  unfold setR
  by_cases c1 : (cs.length : Int) = endN l.length es
  · rw [if_neg (by simpa using c1)]
    cases c2 : shortAt l es cs with
    | some i =>
      rw [c2] at s3
      simp [fn_set_reason, runFn, m_set_reason, mCall, fzIO, pars, par, okSlots, putOuts, nlP, nlM, s1, s2, c1, s3, oNat]
    | none =>
      rw [c2] at s3
      cases c3 : plc l cs with
      | nil =>
        simp [fn_set_reason, runFn, m_set_reason, mCall, fzIO, pars, par, okSlots, putOuts, nlP, nlM, s1, s2, c1, s3, oNat, comp, c3, s4]
      | cons p0 ps =>
        have hp0 : p0 < l.length := plc_lt (cs := cs) (by rw [c3]; exact List.mem_cons_self)
        have hpl : (p0 :: ps).getLast (by simp) < l.length := plc_lt (cs := cs) (by rw [c3]; exact List.getLast_mem _)
        have s6 := nats_last (p0 :: ps) (by simp)
        have sh := shNats (p0 :: ps)
        generalize hq : (p0 :: ps).getLast (by simp) = pl at hpl s6
        have cut := cut_eq l p0 pl (by omega) (by omega)
        simp only [List.map_cons] at s6 sh
        have loop := fun (mm : SV) (ip : SV) => forL_none (g := store 7) (body := (mIfS (mTest (m2 (oIn true) (mVar 7) (mVar 2))) (mRet (mTup (mCons (mC (.str "block")) (mCons (mVar 7) mNil)))) mSkip)) PyData.str
          (fun d => [some (.d (sD l)), some (.d (lg es)), some (.d (sD cs)), some (.d (.int (endN l.length es))), some mm, some (.d (.list (.int (p0 : Nat) :: ps.map fun i => .int (i : Nat)))), some ip, d.getLast?.map fun x => .d (.str x), none, none, none, none])
          (fun c => decide (c ∉ cs)) (fun c => .d (.tuple [.str "block", .str c])) (fun d c => [some (.d (sD l)), some (.d (lg es)), some (.d (sD cs)), some (.d (.int (endN l.length es))), some mm, some (.d (.list (.int (p0 : Nat) :: ps.map fun i => .int (i : Nat)))), some ip, some (.d (.str c)), none, none, none, none])
          ((l.drop p0).take (pl - p0)) [] (fun d c r _ => by
            by_cases m : c ∈ cs
            · simp [m]
            · simp [m])
        have loop1 := loop (.d .none) (.d (.list ((posP es cs).map fun i => .int (i : Nat))))
        simp only [List.getLast?_nil, Option.map_none, List.nil_append] at loop1
        cases c4 : ((l.drop p0).take (pl - p0)).find? fun c => decide (c ∉ cs) with
        | some c =>
          obtain ⟨e, he⟩ := loop1.1 c c4
          simp only [hq, c4]
          rw [List.map_take, List.map_drop] at he cut
          simp [fn_set_reason, runFn, m_set_reason, mFor, mCall, fzIO, pars, par, okSlots, putOuts, nlP, nlM, s1, s2, c1, s3, oNat, comp, c3, s4, s6, sh, cut, he]
        | none =>
          have he := loop1.2 c4
          simp only [hq, c4]
          cases c5 : posP es cs with
          | nil =>
            rw [c5] at he s4
            simp only [List.map_nil] at he s4
            rw [List.map_take, List.map_drop] at he cut
            simp [fn_set_reason, runFn, m_set_reason, mFor, mCall, fzIO, pars, par, okSlots, putOuts, nlP, nlM, s1, s2, c1, s3, oNat, comp, c3, s4, s6, sh, cut, he]
          | cons q qs =>
            have hq2 : q < es.length := posP_lt (cs := cs) (by rw [c5]; exact List.mem_cons_self)
            have sh2 := shNats (q :: qs)
            have s7 := deps_ix es q (by omega)
            rw [c5] at he s4
            simp only [List.map_cons] at he s4 sh2
            rw [List.map_take, List.map_drop] at he cut
            by_cases c6 : depN (es.take q) < (if (l.length : Int) - (pl : Nat) - 1 < (p0 : Nat) then (l.length : Int) - (pl : Nat) - 1 else (p0 : Nat))
            · simp [fn_set_reason, runFn, m_set_reason, mFor, mCall, fzIO, pars, par, okSlots, putOuts, nlP, nlM, s1, s2, c1, s3, oNat, comp, c3, s4, s5, s6, s7, sh, sh2, cut, he, c6]
            · simp [fn_set_reason, runFn, m_set_reason, mFor, mCall, fzIO, pars, par, okSlots, putOuts, nlP, nlM, s1, s2, c1, s3, oNat, comp, c3, s4, s5, s6, s7, sh, sh2, cut, he, c6]
  · rw [if_pos (by simpa using c1)]
    simp [fn_set_reason, runFn, m_set_reason, mCall, fzIO, pars, par, okSlots, putOuts, nlP, nlM, s1, s2, c1]
def isNonD : D → Bool
  | .none => true
  | _ => false
theorem isNon_d (d : D) : isNon (.d d) = isNonD d := by cases d <;> rfl
theorem run_can (l : List Str) (es : List Ev) (cs : List Str) (hc : ∀ x ∈ l, carB x = true) (hn : l.Nodup) (h1 : l.length ≤ 2000) (ok : LogOk l es) (ck : CarsOk l es cs) : fn_can_stay [.d (sD l), .d (lg es), .d (sD cs)] = some (.d (.bool (isNonD (setR l es cs))), [none, none, none]) := by
  have z := isNon_d (setR l es cs)
  unfold isNon at z
  simp [fn_can_stay, runFn, m_can_stay, mCall, fzIO, pars, par, okSlots, putOuts, run_check_all l es cs hc hn h1 ok ck, run_set_reason l es cs h1 ok.len, z]
end Ol
set_option Elab.async false
set_option linter.all false
set_option maxRecDepth 100000
set_option maxHeartbeats 4000000
namespace Ol
open PySem PySem.Spec PyProof.Rows L2
theorem rangeD_eq (n : Nat) : rangeD 0 n = (List.range' 0 n).map fun i => .int (i : Nat) := by
  unfold rangeD
  rw [List.range_eq_range']
  simp
theorem rangeD_zip {α : Type} (l : List α) : rangeD 0 l.length = l.zipIdx.map fun p => .int (p.2 : Nat) := by
  rw [rangeD_eq]
  have e : l.zipIdx.map Prod.snd = List.range' 0 l.length := by simp [List.zipIdx_map_snd]
  rw [← e, List.map_map]
  rfl
theorem zip_get {α : Type} {l : List α} {p : α × Nat} (h : p ∈ l.zipIdx) : l[p.2]? = some p.1 := by
  obtain ⟨x, i⟩ := p
  exact List.mem_zipIdx_iff_getElem?.mp h
theorem plc_asc (l cs : List Str) : (plc l cs).Pairwise (· < ·) := by
  unfold plc
  have h : (l.zipIdx.map Prod.snd).Pairwise (· < ·) := by
    rw [show l.zipIdx.map Prod.snd = List.range' 0 l.length by simp [List.zipIdx_map_snd]]
    exact List.pairwise_lt_range'
  exact List.Pairwise.sublist (List.Sublist.map Prod.snd List.filter_sublist) h
theorem asc_last : ∀ {l : List Nat} (h : l ≠ []), l.Pairwise (· < ·) → ∀ x ∈ l, x ≤ l.getLast h
  | [a], _, _, x, hx => by
    rw [List.mem_singleton] at hx
    subst hx
    exact Nat.le_refl _
  | a :: b :: r, h, p, x, hx => by
    have ih := asc_last (l := b :: r) (by simp) (List.Pairwise.of_cons p)
    rw [List.getLast_cons (by simp)]
    rcases List.mem_cons.mp hx with rfl | hx
    · have := List.rel_of_pairwise_cons p (List.getLast_mem (l := b :: r) (by simp))
      omega
    · exact ih x hx
theorem asc_head {a : Nat} {r : List Nat} (p : (a :: r).Pairwise (· < ·)) : ∀ x ∈ a :: r, a ≤ x := by
  intro x hx
  rcases List.mem_cons.mp hx with rfl | hx
  · exact Nat.le_refl _
  · exact Nat.le_of_lt (List.rel_of_pairwise_cons p hx)
theorem find_zip {α : Type} (P : α → Bool) : ∀ (xs : List α) (n : Nat), ((xs.zipIdx n).find? fun p => P p.1).map Prod.fst = xs.find? P
  | [], _ => rfl
  | x :: r, n => by
    rw [List.zipIdx_cons, List.find?_cons, List.find?_cons]
    cases P x with
    | true => rfl
    | false => exact find_zip P r (n + 1)
theorem find_congr {α : Type} {P Q : α → Bool} : ∀ {xs : List α}, (∀ x ∈ xs, P x = Q x) → xs.find? P = xs.find? Q
  | [], _ => rfl
  | x :: r, h => by
    rw [List.find?_cons, List.find?_cons, h x List.mem_cons_self, find_congr fun y hy => h y (List.mem_cons_of_mem _ hy)]
theorem plc_mem {l cs : List Str} {i : Nat} (h : i ∈ plc l cs) : ∃ c, l[i]? = some c ∧ c ∈ cs := by
  unfold plc at h
  obtain ⟨p, h1, rfl⟩ := List.mem_map.mp h
  obtain ⟨h2, h3⟩ := List.mem_filter.mp h1
  exact ⟨p.1, zip_get h2, by simpa using h3⟩
theorem filt_head {α : Type} (P : α → Bool) : ∀ (xs : List α) (n : Nat), (((xs.zipIdx n).filter fun p => P p.1).map Prod.snd = [] ∧ ∀ y ∈ xs, P y = false) ∨ ∃ d x r qs, xs = d ++ x :: r ∧ (∀ y ∈ d, P y = false) ∧ P x = true ∧ ((xs.zipIdx n).filter fun p => P p.1).map Prod.snd = (n + d.length) :: qs
  | [], _ => .inl ⟨rfl, fun y h => by cases h⟩
  | x :: r, n => by
    rw [List.zipIdx_cons, List.filter_cons]
    cases q : P x with
    | true => exact .inr ⟨[], x, r, _, rfl, (fun y h => by cases h), q, by simp [q]; rfl⟩
    | false =>
      rcases filt_head P r (n + 1) with ⟨h1, h2⟩ | ⟨d, y, s, qs, h1, h2, h3, h4⟩
      · refine .inl ⟨by simpa [q] using h1, fun y hy => ?_⟩
        rcases List.mem_cons.mp hy with rfl | hy
        · exact q
        · exact h2 y hy
      · refine .inr ⟨x :: d, y, s, qs, by rw [h1]; rfl, fun z hz => ?_, h3, ?_⟩
        · rcases List.mem_cons.mp hz with rfl | hz
          · exact q
          · exact h2 z hz
        · simp only [q, Bool.false_eq_true, if_false]
          rw [h4, List.length_cons]
          congr 1
          omega
theorem two62 : (100000 : Int) < 2 ^ 62 ∧ -(2 ^ 62 : Int) ≤ 0 := by decide
theorem rng_if {α : Type} {x y : α} {n : Nat} (hn : n ≤ 100000) : (if -(2 ^ 62) ≤ ((n : Nat) : Int) ∧ ((n : Nat) : Int) < 2 ^ 62 then x else y) = x := by
  have t := two62
  exact if_pos ⟨Int.le_trans t.2 (Int.natCast_nonneg n), Int.lt_of_le_of_lt (Int.ofNat_le.mpr hn) t.1⟩
theorem range_len {a : MA} {env env1 : Env} {n : Nat} (h : a env = some ([.d (.int (n : Nat))], env1)) (hn : n ≤ 100000) : mRange1 a env = some (rangeD 0 n, env1) := by
  unfold mRange1
  rw [h, Option.bind_some]
  dsimp only
  rw [rng_if hn, Int.toNat_natCast]
theorem run_truth (b : Bool) : fn__law_truth [.d (.bool b), .d (.bool b)] = some (.d (.bool true), [none, none]) := by
  simp [fn__law_truth, runFn, m__law_truth, pars, par, okSlots, putOuts]
end Ol
set_option Elab.async false
set_option linter.all false
set_option maxRecDepth 100000
set_option maxHeartbeats 4000000
namespace Ol
open PySem PySem.Spec PyProof.Rows L2
theorem log2_le {n k : Nat} (h : n < 2 ^ (k + 1)) : n.log2 ≤ k := by
  by_cases z : n = 0
  · subst z; simp
  · have := (Nat.log2_lt z).mpr h; omega
/-- the bag behind n draws -/
def Bg (n : Nat) (ds : List D) : Prop := ∃ a b c : Int, ds = [.int a, .int b, .int c] ∧ 0 ≤ a ∧ 0 ≤ b ∧ b < 2 ^ 200 ∧ 0 ≤ c ∧ c ≤ n
theorem mulW {a b : Int} {j k : Nat} (ha : a.natAbs < 2 ^ (j + 1)) (hb : b.natAbs < 2 ^ (k + 1)) (h : j + k < 1000000) : CMulW a b := by
  have h1 := log2_le ha
  have h2 := log2_le hb
  unfold CMulW
  omega
theorem bits_le {i : Int} {k : Nat} (h : i.natAbs < 2 ^ k) : Builtin.Int.intBits i ≤ k := by
  unfold Builtin.Int.intBits
  split
  · omega
  · rename_i c
    have z : i.natAbs ≠ 0 := by simpa using c
    have := (Nat.log2_lt z).mpr h
    omega
theorem take1 (a b c lim : Int) (ha : 1 < a) (h0 : 0 < lim) (h1 : lim < 1073741824) : fn__law_take [.own true (.lst [.int a, .int b, .int c]), .d (.int lim)] = some (.d (.int (a % lim)), [some (.lst [.int (a / lim), .int b, .int c]), none]) := by
  have g : CDiv a lim := ⟨h0, h1⟩
  simp [fn__law_take, runFn, m__law_take, pars, par, okSlots, putOuts, ha, h0, g, fSetL, ixN]
def mx1 (b c : Int) : Int := (b + 1300223 * (c + 1)) ^ 3 % 162259276829213363391578010288127
def mx2 (b c : Int) : Int := (mx1 b c + 15486253 * (c + 1)) ^ 5 % 618970019642690137449562111
theorem take2 (a b c lim : Int) (ha : ¬ 1 < a) (h0 : 0 < lim) (h1 : lim < 1073741824) (hb : 0 ≤ b) (hb2 : b < 2 ^ 200) (hc : 0 ≤ c) (hc2 : c ≤ 2 ^ 60) : fn__law_take [.own true (.lst [.int a, .int b, .int c]), .d (.int lim)] = some (.d (.int (mx2 b c / 1048576 % lim)), [some (.lst [.int a, .int b, .int (c + 1)]), none]) := by
  have g1 : CMulW 1300223 (c + 1) := mulW (j := 20) (k := 60) (by decide) (by omega) (by decide)
  have g2 : CMulW 15486253 (c + 1) := mulW (j := 23) (k := 60) (by decide) (by omega) (by decide)
  have g3 : CPowW (b + 1300223 * (c + 1)) 3 := by
    have z := bits_le (i := b + 1300223 * (c + 1)) (k := 201) (by omega)
    refine ⟨by decide, ?_⟩
    omega
  have hm : 0 ≤ mx1 b c ∧ mx1 b c < 162259276829213363391578010288127 := ⟨Int.emod_nonneg _ (by decide), Int.emod_lt_of_pos _ (by decide)⟩
  have g4 : CPowW (mx1 b c + 15486253 * (c + 1)) 5 := by
    have z := bits_le (i := mx1 b c + 15486253 * (c + 1)) (k := 201) (by omega)
    refine ⟨by decide, ?_⟩
    omega
  have g5 : CDiv (mx2 b c) 1048576 := ⟨by decide, by decide⟩
  unfold mx1 at g4
  unfold mx2 mx1 at g5
  simp [fn__law_take, runFn, m__law_take, pars, par, okSlots, putOuts, ha, h0, g1, g2, g3, g4, g5, fSetL, ixN, mx1, mx2]
theorem run_take {n : Nat} {ds : List D} (hn : (n : Int) ≤ 2 ^ 60) (h : Bg n ds) (lim : Int) (h0 : 0 < lim) (h1 : lim < 1073741824) : ∃ r ds', fn__law_take [.own true (.lst ds), .d (.int lim)] = some (.d (.int r), [some (.lst ds'), none]) ∧ 0 ≤ r ∧ r < lim ∧ Bg (n + 1) ds' := by
  obtain ⟨a, b, c, rfl, ha, hb, hb2, hc, hc2⟩ := h
  by_cases q : 1 < a
  · refine ⟨_, _, take1 a b c lim q h0 h1, Int.emod_nonneg _ (by omega), Int.emod_lt_of_pos _ h0, _, b, c, rfl, Int.ediv_nonneg ha (by omega), hb, hb2, hc, by omega⟩
  · refine ⟨_, _, take2 a b c lim q h0 h1 hb hb2 hc (by omega), Int.emod_nonneg _ (by omega), Int.emod_lt_of_pos _ h0, a, b, c + 1, rfl, ha, hb, hb2, by omega, by omega⟩
theorem run_bag (x : Int) (k : Nat) (hk : k < 20) : ∃ ds, fn__law_bag [.d (.int x), .d (.int (k : Nat))] = some (.new (.lst ds), [none, none]) ∧ Bg 0 ds := by
  have g1 : CMulW 6469 ((k : Int) + 1) := mulW (j := 20) (k := 20) (by decide) (by omega) (by decide)
  have g2 : CPowW 10 18 := by
    have z := bits_le (i := 10) (k := 4) (by decide)
    refine ⟨by decide, ?_⟩
    omega
  have m1 := Int.emod_nonneg x (b := 162259276829213363391578010288127) (by decide)
  have m2 := Int.emod_lt_of_pos x (b := 162259276829213363391578010288127) (by decide)
  refine ⟨[.int (if x - 10 ^ 18 > 0 then x - 10 ^ 18 else 0), .int (x % 162259276829213363391578010288127 + 6469 * ((k : Int) + 1)), .int 0], ?_, _, _, _, rfl, ?_, ?_, ?_, by omega, by omega⟩
  · simp [fn__law_bag, runFn, m__law_bag, pars, par, okSlots, putOuts, g1, g2]
  · split <;> omega
  · omega
  · omega
end Ol
set_option Elab.async false
set_option linter.all false
set_option maxRecDepth 100000
set_option maxHeartbeats 4000000
namespace Ol
open PySem PySem.Spec PyProof.Rows L2
/-- a comprehension whose turns change the slots: what holds is kept -/
theorem compL_inv {own : List Nat} {g : MG} {c : MT} {elt : ME} (I : List D → Env → Prop) (tot : Nat) (ht : tot ≤ 100000) : ∀ (xs : List D) (acc : List D) (e : Env), I acc e → acc.length + xs.length = tot →
    (∀ acc e x, x ∈ xs → I acc e → acc.length < tot → ∃ e1 e2 y e3 d, g (.d x) e = some e1 ∧ c e1 = some (true, e2) ∧ elt e2 = some (y, e3) ∧ fz y = some d ∧ I (acc ++ [d]) (wipeE e3 own)) →
    ∃ ds e', compL own g c elt xs e acc = some (ds, e') ∧ ds.length = tot ∧ I ds e'
  | [], acc, e, h, hl, _ => ⟨acc, e, by simp [compL], by simpa using hl, h⟩
  | x :: r, acc, e, h, hl, hs => by
    rw [List.length_cons] at hl
    obtain ⟨e1, e2, y, e3, d, h1, h2, h3, h4, h5⟩ := hs acc e x List.mem_cons_self h (by omega)
    obtain ⟨ds, e', k1, k2, k3⟩ := compL_inv I tot ht r (acc ++ [d]) _ h5 (by rw [List.length_append, List.length_singleton]; omega) fun a e y hy => hs a e y (List.mem_cons_of_mem _ hy)
    refine ⟨ds, e', ?_, k2, k3⟩
    unfold compL
    rw [h1, Option.bind_some, h2, Option.bind_some]
    dsimp only
    rw [if_pos rfl, h3, Option.bind_some]
    dsimp only
    rw [h4, Option.bind_some, if_pos (by omega), k1]
/-- a loop whose turns keep what holds -/
theorem forL_inv {g : MG} {body : MS} (I : List D → Env → Prop) : ∀ (xs done : List D) (e : Env), I done e → (∀ d x r e, done ++ xs = d ++ x :: r → I d e → ∃ e1 e2, g (.d x) e = some e1 ∧ body e1 = some (.nx e2) ∧ I (d ++ [x]) e2) → ∃ e', forL g body xs e = some (.nx e') ∧ I (done ++ xs) e'
  | [], done, e, h, _ => ⟨e, rfl, by rw [List.append_nil]; exact h⟩
  | x :: r, done, e, h, hs => by
    obtain ⟨e1, e2, h1, h2, h3⟩ := hs done x r e rfl h
    obtain ⟨e', k1, k2⟩ := forL_inv I r (done ++ [x]) e2 h3 fun d y s e hd => hs d y s e (by rw [← hd]; simp)
    refine ⟨e', ?_, by rw [show done ++ x :: r = (done ++ [x]) ++ r by simp]; exact k2⟩
    unfold forL
    rw [h1, Option.bind_some, h2]
    exact k1
theorem run_cell (ns : List Int) (k : Nat) (h : ns.length ≤ 1000) : ∃ i, fn__law_cell_at [.d (.list (ns.map .int)), .d (.int (k : Nat))] = some (.d (.int i), [none, none]) := by
  by_cases q : k < ns.length
  · have g := ix_nat (ns.map PyData.int) k (.int ns[k]) (by rw [List.getElem?_map, List.getElem?_eq_getElem q]; rfl)
    exact ⟨ns[k], by simp [fn__law_cell_at, runFn, m__law_cell_at, pars, par, okSlots, putOuts, g, q]⟩
  · exact ⟨0, by simp [fn__law_cell_at, runFn, m__law_cell_at, pars, par, okSlots, putOuts, q]⟩
end Ol
set_option Elab.async false
set_option linter.all false
set_option maxRecDepth 100000
set_option maxHeartbeats 4000000
namespace Ol
open PySem PySem.Spec PyProof.Rows L2
def poolL : List Str := ([[97], [98], [122], [97, 97], [97, 98], [105, 110], [111, 117, 116], [108], [114], [110, 111, 110, 101], [122, 122, 122, 122], [97, 98, 99, 100], [97, 98, 99, 101]] ++ [99, 100, 101, 102, 103, 104, 105, 106, 107, 109, 110, 111, 112, 113].flatMap fun s : Nat => [[s], [s, 97]] ++ [112, 113, 114, 115, 116, 117, 118, 119, 120, 121, 122].map fun m => [s, 120, m]).map fun l : List Nat => (⟨l.toArray⟩ : Str)
def nmA : MS := (mAsg (store 2) (mLst (mCons (mC (.str "a")) (mCons (mC (.str "b")) (mCons (mC (.str "z")) (mCons (mC (.str "aa")) (mCons (mC (.str "ab")) (mCons (mC (.str "in")) (mCons (mC (.str "out")) (mCons (mC (.str "l")) (mCons (mC (.str "r")) (mCons (mC (.str "none")) (mCons (mC (.str "zzzz")) (mCons (mC (.str "abcd")) (mCons (mC (.str "abce")) mNil)))))))))))))))
def nmF : MS := (mFor (store 3) (mIter (mC (.str "cdefghijkmnopq"))) (mAsg (store 2) (m2 oAdd (m2 oAdd (mVar 2) (mLst (mCons (mVar 3) (mCons (m2 oAdd (mVar 3) (mC (.str "a"))) mNil)))) (mCompN [("more", 5)] (store 5) (mIter (mC (.str "pqrstuvwxyz"))) mYes (m2 oAdd (m2 oAdd (mVar 3) (mC (.str "x"))) (mVar 5))))))
def nmR : MS := (mRet (mCompN [("k", 4)] (store 4) (mRange1 (mCons (mVar 1) mNil)) mYes (mMeth 0 2 fPopAt (mCons (mCall [true, false] fn__law_take (mCons (mVar 0) (mCons (mB oLen (mCons (mVar 2) mNil)) mNil))) mNil))))
theorem names_is : m__law_names = mSeq nmA (mSeq nmF nmR) := rfl
theorem pool_ok : poolL.all (fun x => carB x && PyData.strOk x) = true := by decide +kernel
theorem pool_nd : poolL.Nodup := by decide +kernel
theorem pool_not : poolL.all (fun x => x != ("yy" : Str) && x != ("yz" : Str)) = true := by decide +kernel
theorem pool_len : poolL.length = 195 := by decide +kernel
def poolE : Option Env := match mSeq nmA (mSeq nmF mSkip) [none, none, none, none, none, none] with
  | some (.nx e) => some e
  | _ => none
def sPool : Env → Option (List Str) := fun e => match sget e 2 with
  | some (.own _ (.lst ds)) => strsOf ds
  | _ => none
theorem pool_is : poolE.bind sPool = some poolL := by kernel_rfl
end Ol
set_option Elab.async false
set_option linter.all false
set_option maxRecDepth 100000
set_option maxHeartbeats 4000000
namespace Ol
open PySem PySem.Spec PyProof.Rows L2
theorem names_env (ds : List D) (m : Int) : mSeq nmA (mSeq nmF mSkip) [some (.own true (.lst ds)), some (.d (.int m)), none, none, none, none] = some (.nx [some (.own true (.lst ds)), some (.d (.int m)), some (.own false (.lst (poolL.map .str))), some (.d (.str ⟨#[113]⟩)), none, none]) := by kernel_rfl
/-- a popped place -/
theorem popAt_nat (rest : List Str) (i : Nat) (c : Str) (h : rest[i]? = some c) (hl : rest.length ≤ 100000) : fPopAt (.lst (rest.map .str)) [.int (i : Nat)] = some (.d (.str c), .lst ((rest.eraseIdx i).map .str)) := by
  have hi : i < rest.length := (List.getElem?_eq_some_iff.mp h).1
  have t : (100000 : Int) < 2 ^ 63 ∧ -(2 ^ 63 : Int) ≤ 0 := by decide
  unfold fPopAt
  dsimp only
  rw [if_pos ⟨by omega, by omega⟩]
  have q : seqIndex? (i : Nat) (rest.map PyData.str).length = some i := by
    unfold seqIndex?
    simp
    omega
  rw [q, Option.bind_some, List.getElem?_map, h]
  have er : ∀ (l : List Str) (j : Nat), (l.map PyData.str).eraseIdx j = (l.eraseIdx j).map PyData.str := fun l => by
    induction l with
    | nil => intro j; rfl
    | cons a r ih => intro j; cases j with
      | zero => rfl
      | succ j => simp [ih]
  simp [er]
theorem perm_pop : ∀ {l : List Str} {i : Nat} {c : Str}, l[i]? = some c → List.Perm l (c :: l.eraseIdx i)
  | [], _, _, h => by cases h
  | x :: r, 0, c, h => by
    have e : x = c := Option.some.inj h
    subst e
    exact List.Perm.refl _
  | x :: r, i + 1, c, h => ((perm_pop (l := r) (i := i) h).cons x).trans (.swap _ _ _)
end Ol
set_option Elab.async false
set_option linter.all false
set_option maxRecDepth 100000
set_option maxHeartbeats 4000000
namespace Ol
open PySem PySem.Spec PyProof.Rows L2
/-- the bag behind at most n draws, by its three ints -/
structure Bi (n : Nat) (a b c : Int) : Prop where
  a0 : 0 ≤ a
  b0 : 0 ≤ b
  b1 : b < 2 ^ 200
  c0 : 0 ≤ c
  c1 : c ≤ n
theorem Bi.mono {n m : Nat} {a b c : Int} (h : Bi n a b c) (l : n ≤ m) : Bi m a b c := ⟨h.a0, h.b0, h.b1, h.c0, by have := h.c1; omega⟩
abbrev bgO (a b c : Int) : Ob := .lst [.int a, .int b, .int c]
theorem w_take {n : Nat} {a b c lim : Int} {Q : PV → List (Option Ob) → Prop} (h : Bi n a b c) (hn : n ≤ 1000000000) (h0 : 0 < lim) (h1 : lim < 1073741824) (q : ∀ r a' c', Bi (n + 1) a' b c' → 0 ≤ r → r < lim → Q (.d (.int r)) [some (bgO a' b c'), none]) : WF fn__law_take [.own true (bgO a b c), .d (.int lim)] Q := by
  obtain ⟨ha, hb, hb2, hc, hc2⟩ := h
  by_cases z : 1 < a
  · exact .of (take1 a b c lim z h0 h1) (q _ _ _ ⟨Int.ediv_nonneg ha (by omega), hb, hb2, hc, by omega⟩ (Int.emod_nonneg _ (by omega)) (Int.emod_lt_of_pos _ h0))
  · exact .of (take2 a b c lim z h0 h1 hb hb2 hc (by omega)) (q _ _ _ ⟨ha, hb, hb2, by omega, by omega⟩ (Int.emod_nonneg _ (by omega)) (Int.emod_lt_of_pos _ h0))
theorem seq2 {s u t : MS} {env e : Env} (h : mSeq s (mSeq u mSkip) env = some (.nx e)) : mSeq s (mSeq u t) env = t e := by
  simp only [mSeq, mSkip, Option.bind_eq_some_iff] at h ⊢
  obtain ⟨r, h1, h2⟩ := h
  rw [h1, Option.bind_some]
  cases r with
  | nx e1 =>
    simp only [Option.bind_eq_some_iff] at h2 ⊢
    obtain ⟨r2, h3, h4⟩ := h2
    rw [h3, Option.bind_some]
    cases r2 with
    | nx e2 => cases h4; rfl
    | _ => cases h4
  | _ => cases h2
theorem ws_seq2 {s u t : MS} {env e : Env} {Q : Rs → Prop} (h : mSeq s (mSeq u mSkip) env = some (.nx e)) (w : WS t e Q) : WS (mSeq s (mSeq u t)) env Q := by
  obtain ⟨r, h1, q⟩ := w
  exact ⟨r, (seq2 h).trans h1, q⟩
theorem rangeD_nat (n : Nat) : rangeD 0 n = (List.range n).map fun i => .int (i : Nat) := by
  simp [rangeD]
structure NmI (m : Int) (n : Nat) (b : Int) (acc : List D) (e : Env) : Prop where
  ex : ∃ (rest got : List Str) (a c : Int), e = [some (.own true (bgO a b c)), some (.d (.int m)), some (.own false (.lst (rest.map .str))), some (.d (.str ⟨#[113]⟩)), none, none] ∧ acc = got.map .str ∧ List.Perm (got ++ rest) poolL ∧ Bi (n + acc.length) a b c
local macro_rules | `(tactic| walk_at "SD.P07o") => `(tactic| first
  | omega
  | (simp only [List.length_map, List.length_append, List.length_cons, List.length_nil, List.length_drop, List.length_take, List.length_dropLast, List.length_singleton, List.length_eraseIdx, List.length_zipIdx, List.length_range, List.length_range', List.length_reverse, List.length_set]; omega)
  | (with_reducible assumption))
local macro_rules | `(tactic| walk_at "CLEAN.P07o") => `(tactic| dsimp only [rd, rds, sget, sset, fz, fzs, fzP, flt, store, stores, svOf, comps, mNames, back, backs, Ob.rv, Ob.kind, pars, par, fzIO, putOuts, outsOf, okSlots, pick, wipeE, restE, frT, List.map_cons, List.map_nil, List.append_nil, List.nil_append, List.cons_append, List.replicate, Option.bind_some, bD, iD, if_true, reduceIte, List.getElem?_cons_zero, List.getElem?_cons_succ])
local macro_rules | `(tactic| walk_at "CL.P07o") => `(tactic| try (dsimp only [rd, rds, sget, sset, fz, fzs, fzP, flt, store, stores, svOf, comps, mNames, back, backs, Ob.rv, Ob.kind, pars, par, fzIO, putOuts, outsOf, okSlots, pick, wipeE, restE, frT, Option.map_some, List.map_cons, List.map_nil, List.append_nil, List.nil_append, List.cons_append, List.replicate, Option.bind_some, bD, iD, if_true, reduceIte, List.getElem?_cons_zero, List.getElem?_cons_succ]))
local macro_rules | `(tactic| walk_at "OP.P07o") => `(tactic| first
  | (with_reducible assumption)
  | (apply_rules (transparency := .reducible) (maxDepth := 1) only [in_tup, in_lst, in_set, in_dic, ix_list0, ix_list1, ix_tup0, ix_tup1, o_eqI, o_neI, ix_evI, ix_evC, ix_evO, o_eqII, o_eqOI, o_eqIO, o_eqOO, o_neNilI, o_eqNilI, o_rev, o_isB, strsOf_strs])
  | ((with_reducible refine o_addS ?_); walk_at "SD.P07o")
  | ((with_reducible refine o_addT ?_); walk_at "SD.P07o")
  | ((with_reducible refine o_addL ?_); walk_at "SD.P07o")
  | ((with_reducible refine f_append ?_); walk_at "SD.P07o")
  | ((with_reducible refine o_div ?_ ?_) <;> walk_at "SD.P07o")
  | ((with_reducible refine o_mod ?_); walk_at "SD.P07o")
  | (with_reducible refine o_eqS (by first | assumption | exact ok_in | exact ok_out) (by first | assumption | exact ok_in | exact ok_out))
  | ((with_reducible refine o_ixS ?_ ?_) <;> walk_at "SD.P07o")
  | ((with_reducible refine o_ixT ?_ ?_) <;> walk_at "SD.P07o")
  | ((with_reducible refine f_setS ?_ ?_) <;> walk_at "SD.P07o")
  | ((with_reducible refine o_minL ?_); walk_at "SD.P07o")
  | ((with_reducible refine o_neNil ?_); (with_reducible assumption))
  | ((with_reducible refine o_eqNil ?_); (with_reducible assumption))
  | ((with_reducible refine f_popAt ?_ ?_ ?_) <;> walk_at "SD.P07o")
  | ((fail_if_success (with_reducible apply may_pop)); exact rfl)
  | (exact store_om rfl rfl)
  | (exact store_oo rfl rfl)
  | walk_at "SD.P07o")
local macro_rules | `(tactic| walk_at "EV1.P07o") => `(tactic| (first
  | (apply_rules (transparency := .reducible) (maxDepth := 500) only [u_thn, u_thnR, u_turn, u_turnR, u_finN, u_finR, u_inx, u_seq, u_ifS, u_skip, u_asgF, u_asg, u_asgT, u_idx, u_listR, u_ssI, u_ss, u_drop, u_ret, u_retN, u_retT, u_par, u_setIx, u_for, u_break, u_cont, u_c, u_newT, u_m1, u_m2, u_nil, u_cons, u_mB, u_tup, u_lst, u_test, u_tru, u_yes, u_andT, u_orT, u_notT, u_and, u_or, u_not, u_if, u_chain, u_noP, u_P, u_sl, u_meth, u_isi, u_isi2, u_call, u_callK, u_iter, u_enum, u_range1, u_range2, sp_tt, sp_ff, Exists.intro])
  | ((with_reducible refine u_mayVar ?_); first | (refine u_var rfl ?_) | (refine u_varO rfl ?_))
  | ((with_reducible refine u_mayWG ?_); first | (refine u_g (by first | (walk_at "CLEAN.P07o"; exact rfl) | (walk_at "CLEAN.P07o"; done) | exact store_om rfl rfl | exact store_oo rfl rfl) ?_) | (refine u_gs (by first | (walk_at "CLEAN.P07o"; exact rfl) | (walk_at "CLEAN.P07o"; done)) ?_))
  | ((with_reducible refine sp_dt ?_ ?_); focus (first | assumption | omega))
  | ((with_reducible refine sp_df ?_ ?_); focus (first | assumption | omega))
  | ((with_reducible refine sp_et ?_ ?_); focus (first | assumption | omega))
  | ((with_reducible refine sp_ndt ?_ ?_); focus (first | assumption | omega))
  | ((with_reducible refine sp_ndf ?_ ?_); focus (first | assumption | omega))
  | ((with_reducible refine sp_ef ?_ ?_); focus (first | assumption | omega))
  | (with_reducible refine sp_t (by assumption) ?_)
  | (with_reducible refine sp_f (by assumption) ?_)
  | (with_reducible refine sp_nt (by first | assumption | rfl) ?_)
  | (with_reducible refine sp_nf (by first | assumption | rfl) ?_)
  | (with_reducible refine sp_d (fun hb => ?_) (fun hb => ?_))
  | (with_reducible refine sp_nd (fun hb => ?_) (fun hb => ?_))
  | (with_reducible refine sp_e (fun hb => ?_) (fun hb => ?_))
  | (with_reducible refine sp_ne (fun hb => ?_) (fun hb => ?_))
  | (with_reducible refine sp_xf (fun hb => ?_) (fun hb => ?_))
  | (with_reducible refine sp_xt (fun hb => ?_) (fun hb => ?_))
  | (with_reducible refine sp_b (fun hb => ?_) (fun hb => ?_))
  | ((with_reducible refine u_mayWF ?_); (try (first | (with_reducible refine u_svs1 ?_) | (with_reducible refine u_svs2 ?_) | (with_reducible refine u_svs3 ?_) | (with_reducible refine u_svs4 ?_) | (with_reducible refine u_svs5 ?_) | (with_reducible refine u_svs6 ?_) | (with_reducible refine u_svs7 ?_) | (with_reducible refine u_svs8 ?_))); (first | ((with_reducible refine w_take (by assumption) ?_ ?_ ?_ ?_); (walk_at "SD.P07o"); (walk_at "SD.P07o"); (walk_at "SD.P07o"); intro r a1 c1 h1 h2 h3; try simp only [List.length_map, List.length_append, List.length_cons, List.length_nil] at h3) | fail))
  | ((with_reducible refine And.intro ?_ ?_); focus (first | (walk_at "CLEAN.P07o"; walk_at "OP.P07o"; done) | (walk_at "CLEAN.P07o"; done) | (walk_at "OP.P07o"; done)))
  | fail))
local macro_rules | `(tactic| walk_at "EV.P07o") => `(tactic| repeat' (first | walk_at "EV1.P07o" | fail))
local macro_rules | `(tactic| walk_at "CE.P07o") => `(tactic| try (dsimp only [sset, wipeE, restE, List.map, List.cons_append, List.nil_append, List.append_nil, List.replicate]))
/-- distinct names out of the pool -/
theorem w_names {n : Nat} {a b c m : Int} {Q : PV → List (Option Ob) → Prop} (h : Bi n a b c) (hn : n ≤ 1000000) (hm0 : 0 ≤ m) (hm : m ≤ 195) (q : ∀ (got : List Str) (a' c' : Int), (got.length : Int) = m → got.Nodup → (∀ x ∈ got, x ∈ poolL) → Bi (n + 195) a' b c' → Q (.new (.lst (got.map .str))) [some (bgO a' b c'), none]) : WF fn__law_names [.own true (bgO a b c), .d (.int m)] Q := by
  refine u_fn rfl ?_
  rw [names_is]
  refine ws_seq2 (names_env [.int a, .int b, .int c] m) ?_
  unfold nmR
  walk_at "EV.P07o"
  refine u_comp (fun i => PyData.int (i : Nat)) (List.range m.toNat) (fun d acc e => NmI m n b acc e ∧ acc.length = d.length) ?_
  walk_at "EV.P07o"
  refine ⟨rangeD_nat _, ⟨⟨poolL, [], a, c, rfl, rfl, List.Perm.refl _, h⟩, rfl⟩, ?_, ?_⟩
  · intro d x r acc e hl hi
    obtain ⟨⟨rest, got, a, c, rfl, rfl, hp, hb⟩, hlen⟩ := hi
    have hpl := hp.length_eq
    have hrl := congrArg List.length hl
    rw [pool_len, List.length_append] at hpl
    rw [List.length_map] at hb hlen
    rw [List.length_range, List.length_append, List.length_cons] at hrl
    walk_at "EV.P07o"
    rename_i r a1 c1 k3 k1 k2
    refine ⟨⟨dropAt rest r, got ++ [gt rest r], a1, c1, rfl, by simp, ?_, ?_⟩, ?_⟩
    · rw [List.append_assoc]
      exact (List.Perm.append_left got (gt_perm k1 k2).symm).trans hp
    · rw [List.length_append, List.length_map, List.length_singleton]
      exact k3
    · simp [hlen]
  · intro acc e hi
    obtain ⟨⟨rest, got, a1, c1, rfl, rfl, hp, hb⟩, hlen⟩ := hi
    walk_at "EV.P07o"
    rw [List.length_map, List.length_range] at hlen
    refine q got a1 c1 (by omega) ?_ ?_ ?_
    · exact (List.nodup_append.mp (hp.nodup_iff.mpr pool_nd)).1
    · exact fun x hx => hp.mem_iff.mp (List.mem_append_left _ hx)
    · rw [List.length_map] at hb
      exact hb.mono (by omega)
end Ol
set_option Elab.async false
set_option linter.all false
set_option maxRecDepth 100000
set_option maxHeartbeats 4000000
namespace Ol
open PySem PySem.Spec PyProof.Rows L2
/-- an initial lane and a log as the law draws them -/
structure Drawn (l : List Str) (es : List Ev) (w m : Nat) : Prop where
  pool : ∀ x ∈ l ++ arr es, x ∈ poolL
  nd : (l ++ arr es).Nodup
  room : ∀ d r, es = d ++ none :: r → 0 < endN l.length d
  small : ∀ d r, es = d ++ r → endN l.length d ≤ 40 ∧ 0 ≤ endN l.length d
  ll : l.length ≤ w
  el : es.length ≤ m
theorem ix4 {b0 b1 b2 b3 : Bool} {i : Int} (h0 : 0 ≤ i) (h1 : i < 4) : oIx (.d (.list [.bool b0, .bool b1, .bool b2, .bool b3])) (.d (.int i)) = some (.d (.bool (if i = 0 then b0 else if i = 1 then b1 else if i = 2 then b2 else b3))) := by
  rcases (by omega : i = 0 ∨ i = 1 ∨ i = 2 ∨ i = 3) with rfl | rfl | rfl | rfl
  · exact ix_nat [.bool b0, .bool b1, .bool b2, .bool b3] 0 _ rfl
  · exact ix_nat [.bool b0, .bool b1, .bool b2, .bool b3] 1 _ rfl
  · exact ix_nat [.bool b0, .bool b1, .bool b2, .bool b3] 2 _ rfl
  · exact ix_nat [.bool b0, .bool b1, .bool b2, .bool b3] 3 _ rfl
structure BuI (n w m : Nat) (got : List Str) (lean : Int) (b : Int) (l : List Str) (k : Nat) (e : Env) : Prop where
  ex : ∃ (es : List Ev) (fr : List Str) (a c : Int) (v7 v10 v11 : Option D), e = [some (.own true (bgO a b c)), some (.d (.int w)), some (.d (.int m)), some (.d (.list (got.map .str))), some (.d (.int (endN l.length es))), some (.d (.int lean)), some (.own false (.lst (es.map ev))), v7.map SV.d, some (.d (sD l)), some (.own false (.lst (fr.map .str))), v10.map SV.d, v11.map SV.d] ∧
    got = l ++ arr es ++ fr ∧ (∀ d r, es = d ++ none :: r → 0 < endN l.length d) ∧ endN l.length es ≤ 40 ∧ 0 ≤ endN l.length es ∧ (∀ d r, es = d ++ r → endN l.length d ≤ 40 ∧ 0 ≤ endN l.length d) ∧ es.length = k ∧ Bi (n + k) a b c
theorem small_snoc {n : Int} {es : List Ev} {x : Ev} (h : ∀ d r, es = d ++ r → endN n d ≤ 40 ∧ 0 ≤ endN n d) (h1 : endN n (es ++ [x]) ≤ 40 ∧ 0 ≤ endN n (es ++ [x])) : ∀ d r, es ++ [x] = d ++ r → endN n d ≤ 40 ∧ 0 ≤ endN n d := by
  intro d r he
  rcases List.eq_nil_or_concat r with h2 | ⟨r', y, h2⟩
  · subst h2
    rw [List.append_nil] at he
    subst he
    exact h1
  · subst h2
    rw [List.concat_eq_append, ← List.append_assoc] at he
    exact h d r' (List.append_inj' he rfl).1
theorem arr_snoc (es : List Ev) (x : Ev) : arr (es ++ [x]) = arr es ++ x.toList := by
  cases x <;> simp [arr]
theorem arr_len (es : List Ev) : (arr es).length ≤ es.length := List.length_filterMap_le _ _
theorem room_snoc {l : List Str} {es : List Ev} {x : Ev} (h : ∀ d r, es = d ++ none :: r → 0 < endN l.length d) (hx : x = none → 0 < endN l.length es) : ∀ d r, es ++ [x] = d ++ none :: r → 0 < endN l.length d := by
  intro d r he
  rcases List.eq_nil_or_concat r with h1 | ⟨r', y, h1⟩
  · subst h1
    have := List.append_inj' he rfl
    obtain ⟨rfl, h2⟩ := this
    exact hx (by simpa using h2)
  · subst h1
    rw [List.concat_eq_append] at he
    have e2 : es ++ [x] = (d ++ none :: r') ++ [y] := by rw [he]; simp
    have := List.append_inj' e2 rfl
    exact h d r' this.1
local macro_rules | `(tactic| walk_at "SD.P07p") => `(tactic| first
  | omega
  | (simp only [List.length_map, List.length_append, List.length_cons, List.length_nil, List.length_drop, List.length_take, List.length_dropLast, List.length_singleton, List.length_eraseIdx, List.length_zipIdx, List.length_range, List.length_range', List.length_reverse, List.length_set]; omega)
  | (with_reducible assumption))
local macro_rules | `(tactic| walk_at "CLEAN.P07p") => `(tactic| dsimp only [rd, rds, sget, sset, fz, fzs, fzP, flt, store, stores, svOf, comps, mNames, back, backs, Ob.rv, Ob.kind, pars, par, fzIO, putOuts, outsOf, okSlots, pick, wipeE, restE, frT, List.map_cons, List.map_nil, List.append_nil, List.nil_append, List.cons_append, List.replicate, Option.bind_some, bD, iD, if_true, reduceIte, List.getElem?_cons_zero, List.getElem?_cons_succ])
local macro_rules | `(tactic| walk_at "CL.P07p") => `(tactic| try (dsimp only [rd, rds, sget, sset, fz, fzs, fzP, flt, store, stores, svOf, comps, mNames, back, backs, Ob.rv, Ob.kind, pars, par, fzIO, putOuts, outsOf, okSlots, pick, wipeE, restE, frT, Option.map_some, List.map_cons, List.map_nil, List.append_nil, List.nil_append, List.cons_append, List.replicate, Option.bind_some, bD, iD, if_true, reduceIte, List.getElem?_cons_zero, List.getElem?_cons_succ]))
local macro_rules | `(tactic| walk_at "OP.P07p") => `(tactic| first
  | (with_reducible assumption)
  | (apply_rules (transparency := .reducible) (maxDepth := 1) only [in_tup, in_lst, in_set, in_dic, ix_list0, ix_list1, ix_tup0, ix_tup1, o_eqI, o_neI, ix_evI, ix_evC, ix_evO, o_eqII, o_eqOI, o_eqIO, o_eqOO, o_neNilI, o_eqNilI, o_rev, o_isB, strsOf_strs])
  | ((with_reducible refine o_addS ?_); walk_at "SD.P07p")
  | ((with_reducible refine o_addT ?_); walk_at "SD.P07p")
  | ((with_reducible refine o_addL ?_); walk_at "SD.P07p")
  | ((with_reducible refine f_append ?_); walk_at "SD.P07p")
  | ((with_reducible refine o_div ?_ ?_) <;> walk_at "SD.P07p")
  | ((with_reducible refine o_mod ?_); walk_at "SD.P07p")
  | (with_reducible refine o_eqS (by first | assumption | exact ok_in | exact ok_out) (by first | assumption | exact ok_in | exact ok_out))
  | ((with_reducible refine o_ixS ?_ ?_) <;> walk_at "SD.P07p")
  | ((with_reducible refine o_ixT ?_ ?_) <;> walk_at "SD.P07p")
  | ((with_reducible refine f_setS ?_ ?_) <;> walk_at "SD.P07p")
  | ((with_reducible refine o_minL ?_); walk_at "SD.P07p")
  | ((with_reducible refine o_neNil ?_); (with_reducible assumption))
  | ((with_reducible refine o_eqNil ?_); (with_reducible assumption))
  | ((with_reducible refine f_popAt ?_ ?_ ?_) <;> walk_at "SD.P07p")
  | ((with_reducible refine ix4 ?_ ?_) <;> walk_at "SD.P07p")
  | ((fail_if_success (with_reducible apply may_pop)); exact rfl)
  | (exact store_om rfl rfl)
  | (exact store_oo rfl rfl)
  | walk_at "SD.P07p")
local macro_rules | `(tactic| walk_at "EV1.P07p") => `(tactic| (first
  | (apply_rules (transparency := .reducible) (maxDepth := 500) only [u_thn, u_thnR, u_turn, u_turnR, u_finN, u_finR, u_inx, u_seq, u_ifS, u_skip, u_asgF, u_asg, u_asgT, u_idx, u_listR, u_ssI, u_ss, u_drop, u_ret, u_retN, u_retT, u_par, u_setIx, u_for, u_break, u_cont, u_c, u_newT, u_m1, u_m2, u_nil, u_cons, u_mB, u_tup, u_lst, u_test, u_tru, u_yes, u_andT, u_orT, u_notT, u_and, u_or, u_not, u_if, u_chain, u_noP, u_P, u_sl, u_meth, u_isi, u_isi2, u_call, u_callK, u_iter, u_enum, u_range1, u_range2, sp_tt, sp_ff, Exists.intro])
  | ((with_reducible refine u_mayVar ?_); first | (refine u_var rfl ?_) | (refine u_varO rfl ?_))
  | ((with_reducible refine u_mayWG ?_); first | (refine u_g (by first | (walk_at "CLEAN.P07p"; exact rfl) | (walk_at "CLEAN.P07p"; done) | exact store_om rfl rfl | exact store_oo rfl rfl) ?_) | (refine u_gs (by first | (walk_at "CLEAN.P07p"; exact rfl) | (walk_at "CLEAN.P07p"; done)) ?_))
  | ((with_reducible refine sp_dt ?_ ?_); focus (first | assumption | omega))
  | ((with_reducible refine sp_df ?_ ?_); focus (first | assumption | omega))
  | ((with_reducible refine sp_et ?_ ?_); focus (first | assumption | omega))
  | ((with_reducible refine sp_ndt ?_ ?_); focus (first | assumption | omega))
  | ((with_reducible refine sp_ndf ?_ ?_); focus (first | assumption | omega))
  | ((with_reducible refine sp_ef ?_ ?_); focus (first | assumption | omega))
  | (with_reducible refine sp_t (by assumption) ?_)
  | (with_reducible refine sp_f (by assumption) ?_)
  | (with_reducible refine sp_nt (by first | assumption | rfl) ?_)
  | (with_reducible refine sp_nf (by first | assumption | rfl) ?_)
  | (with_reducible refine sp_d (fun hb => ?_) (fun hb => ?_))
  | (with_reducible refine sp_nd (fun hb => ?_) (fun hb => ?_))
  | (with_reducible refine sp_e (fun hb => ?_) (fun hb => ?_))
  | (with_reducible refine sp_ne (fun hb => ?_) (fun hb => ?_))
  | (with_reducible refine sp_xf (fun hb => ?_) (fun hb => ?_))
  | (with_reducible refine sp_xt (fun hb => ?_) (fun hb => ?_))
  | (with_reducible refine sp_b (fun hb => ?_) (fun hb => ?_))
  | ((with_reducible refine u_mayWF ?_); (try (first | (with_reducible refine u_svs1 ?_) | (with_reducible refine u_svs2 ?_) | (with_reducible refine u_svs3 ?_) | (with_reducible refine u_svs4 ?_) | (with_reducible refine u_svs5 ?_) | (with_reducible refine u_svs6 ?_) | (with_reducible refine u_svs7 ?_) | (with_reducible refine u_svs8 ?_))); (first | ((with_reducible refine w_take (by assumption) ?_ ?_ ?_ ?_); (walk_at "SD.P07p"); (walk_at "SD.P07p"); (walk_at "SD.P07p"); intro r a1 c1 h1 h2 h3; try simp only [List.length_map, List.length_append, List.length_cons, List.length_nil] at h3) | ((with_reducible refine w_names (by assumption) ?_ ?_ ?_ ?_); (walk_at "SD.P07p"); (walk_at "SD.P07p"); (walk_at "SD.P07p"); intro got a1 c1 h1 h2 h3 h4) | fail))
  | ((with_reducible refine And.intro ?_ ?_); focus (first | (walk_at "CLEAN.P07p"; walk_at "OP.P07p"; done) | (walk_at "CLEAN.P07p"; done) | (walk_at "OP.P07p"; done)))
  | fail))
local macro_rules | `(tactic| walk_at "EV.P07p") => `(tactic| repeat' (first | walk_at "EV1.P07p" | fail))
local macro_rules | `(tactic| walk_at "CE.P07p") => `(tactic| try (dsimp only [sset, wipeE, restE, List.map, List.cons_append, List.nil_append, List.append_nil, List.replicate]))
theorem w_built {n : Nat} {a b c : Int} {w m : Nat} {Q : PV → List (Option Ob) → Prop} (h : Bi n a b c) (hn : n ≤ 1000000) (hw : w ≤ 40) (hm : w + m ≤ 195) (q : ∀ l es a' c', Drawn l es w m → Bi (n + 600) a' b c' → Q (.tup [.d (sD l), .new (.lst (es.map ev))]) [some (bgO a' b c'), none, none]) : WF fn__law_built [.own true (bgO a b c), .d (.int w), .d (.int m)] Q := by
  refine u_fn rfl ?_
  unfold m__law_built
  walk_at "CLEAN.P07p"
  walk_at "EV.P07p"
  rename_i got a1 c1 g1 g2 g3 g4 size a2 c2 z1 z2 z3 lean a3 c3 y1 y2 y3 cnt a4 c4 x1 x2 x3
  have hgl : got.length = w + m := by omega
  refine u_forI (BuI (n + 195 + 1 + 1 + 1) w m got lean b (got.take size.toNat)) _ ?_ ?_ ?_
  · have hs : ((got.take size.toNat).length : Int) = size := by rw [List.length_take]; omega
    refine ⟨[], got.drop size.toNat, a4, c4, none, none, none, ?_, by simp [arr], by simp, by simp [endN]; omega, by simp [endN], fun d r he => by (obtain ⟨rfl, rfl⟩ := List.append_eq_nil_iff.mp he.symm; simp [endN]; omega), rfl, x1⟩
    rw [cut_to _ _ z2 (by rw [List.length_map]; omega), cut_from _ _ z2 (by rw [List.length_map]; omega), ← List.map_take, ← List.map_drop]
    simp only [endN, List.foldl_nil, hs]
    rfl
  · intro i x e hx hi
    obtain ⟨es, fr, a, c, v7, v10, v11, rfl, q1, q2, q3, q4, qs, q5, q6⟩ := hi
    obtain ⟨hil, rfl⟩ : i < cnt.toNat ∧ x = .int (i : Nat) := by
      unfold rangeD at hx
      rw [List.getElem?_map] at hx
      have h1 : i < cnt.toNat := by
        by_cases h : i < cnt.toNat
        · exact h
        · rw [List.getElem?_eq_none (by simpa using h)] at hx; cases hx
      rw [List.getElem?_range h1] at hx
      exact ⟨h1, by simpa using hx.symm⟩
    have hfl : 0 < fr.length ∧ fr.length ≤ 195 := by
      have := congrArg List.length q1
      have h2 := arr_len es
      simp only [List.length_append, List.length_take] at this
      omega
    obtain ⟨hf1, hf2⟩ := hfl
    have out : ∀ (r a1 c1 : Int) (v11 : D), 0 < endN (got.take size.toNat).length es → Bi (n + 195 + 1 + 1 + 1 + i + 1) a1 b c1 → BuI (n + 195 + 1 + 1 + 1) w m got lean b (got.take size.toNat) (i + 1) [some (SV.own true (bgO a1 b c1)), some (SV.d (PyData.int ↑w)), some (SV.d (PyData.int ↑m)), some (SV.d (PyData.list (List.map PyData.str got))), some (SV.d (PyData.int (endN (↑(List.take size.toNat got).length) es - 1))), some (SV.d (PyData.int lean)),
      some (SV.own false (Ob.lst (List.map ev es ++ [PyData.tuple [PyData.str "out"]]))), some (SV.d (PyData.int ↑i)), some (SV.d (sD (List.take size.toNat got))), some (.own false (.lst (fr.map .str))), some (.d (.int r)), some (.d v11)] := fun r a1 c1 v11 hp hb => by
      refine ⟨es ++ [none], fr, a1, c1, some (.int i), some (.int r), some v11, ?_, ?_, room_snoc q2 fun _ => hp, ?_, ?_, ?_, ?_, hb.mono (by omega)⟩
      · rw [endN_snoc, List.map_append]
        rfl
      · rw [arr_snoc]
        simpa using q1
      · rw [endN_snoc]; simp only [dl]; omega
      · rw [endN_snoc]; simp only [dl]; omega
      · exact small_snoc qs (by rw [endN_snoc]; simp only [dl]; omega)
      · simp [q5]
    have inn : ∀ (r a1 c1 : Int) (v11 : D), endN (got.take size.toNat).length es < 40 → Bi (n + 195 + 1 + 1 + 1 + i + 1) a1 b c1 → BuI (n + 195 + 1 + 1 + 1) w m got lean b (got.take size.toNat) (i + 1) [some (SV.own true (bgO a1 b c1)), some (SV.d (PyData.int ↑w)), some (SV.d (PyData.int ↑m)), some (SV.d (PyData.list (List.map PyData.str got))), some (SV.d (PyData.int (endN (↑(List.take size.toNat got).length) es + 1))), some (SV.d (PyData.int lean)),
      some (SV.own false (Ob.lst (List.map ev es ++ [PyData.tuple [PyData.str "in", PyData.str (gt fr 0)]]))), some (SV.d (PyData.int ↑i)), some (SV.d (sD (List.take size.toNat got))), some (.own false (.lst ((dropAt fr 0).map .str))), some (.d (.int r)), some (.d v11)] := fun r a1 c1 v11 hp hb => by
      refine ⟨es ++ [some (gt fr 0)], dropAt fr 0, a1, c1, some (.int i), some (.int r), some v11, ?_, ?_, room_snoc q2 (fun z => by cases z), ?_, ?_, ?_, ?_, hb.mono (by omega)⟩
      · rw [endN_snoc, List.map_append]
        rfl
      · rw [arr_snoc]
        cases fr with
        | nil => simp at hf1
        | cons f0 fr => simpa [gt, dropAt] using q1
      · rw [endN_snoc]; simp only [dl]; omega
      · rw [endN_snoc]; simp only [dl]; omega
      · exact small_snoc qs (by rw [endN_snoc]; simp only [dl]; omega)
      · simp [q5]
    walk_at "EV.P07p"
    · exact out _ _ _ _ (by assumption) (by assumption)
    · exact out _ _ _ _ (by assumption) (by assumption)
    · exact inn _ _ _ _ (by omega) (by assumption)
    · exact inn _ _ _ _ (by omega) (by assumption)
  · intro e hi
    obtain ⟨es, fr, a, c, v7, v10, v11, rfl, q1, q2, q3, q4, qs, q5, q6⟩ := hi
    have hrl : es.length ≤ m := by rw [q5]; simp [rangeD]; omega
    have hd : Drawn (got.take size.toNat) es w m := by
      refine ⟨fun x hx => g3 x ?_, ?_, q2, qs, ?_, hrl⟩
      · rw [q1]; exact List.mem_append_left _ hx
      · rw [q1] at g2
        exact (List.nodup_append.mp g2).1
      · rw [List.length_take]; omega
    have hb : Bi (n + 600) a b c := q6.mono (by rw [← q5]; omega)
    walk_at "EV.P07p"
    exact q _ _ _ _ hd hb
end Ol
set_option Elab.async false
set_option linter.all false
set_option maxRecDepth 100000
set_option maxHeartbeats 4000000
namespace Ol
open PySem PySem.Spec PyProof.Rows L2
/-- a list without repeats within another is no longer -/
theorem nodup_le : ∀ {a b : List Str}, a.Nodup → (∀ x ∈ a, x ∈ b) → a.length ≤ b.length
  | [], _, _, _ => Nat.zero_le _
  | x :: r, b, nd, h => by
    obtain ⟨n1, n2⟩ := List.nodup_cons.mp nd
    have hx : x ∈ b := h x List.mem_cons_self
    have ih := nodup_le (b := b.erase x) n2 fun y hy => by
      have : y ≠ x := fun z => n1 (z ▸ hy)
      exact (List.mem_erase_of_ne this).mpr (h y (List.mem_cons_of_mem _ hy))
    rw [List.length_erase_of_mem hx] at ih
    have : 0 < b.length := List.length_pos_of_mem hx
    simp only [List.length_cons]
    omega
local macro_rules | `(tactic| walk_at "SD.P08q") => `(tactic| first
  | omega
  | (simp only [List.length_map, List.length_append, List.length_cons, List.length_nil, List.length_drop, List.length_take, List.length_dropLast, List.length_singleton, List.length_eraseIdx, List.length_zipIdx, List.length_range, List.length_range', List.length_reverse, List.length_set]; omega)
  | (with_reducible assumption))
local macro_rules | `(tactic| walk_at "CLEAN.P08q") => `(tactic| dsimp only [rd, rds, sget, sset, fz, fzs, fzP, flt, store, stores, svOf, comps, mNames, back, backs, Ob.rv, Ob.kind, pars, par, fzIO, putOuts, outsOf, okSlots, pick, wipeE, restE, frT, List.map_cons, List.map_nil, List.append_nil, List.nil_append, List.cons_append, List.replicate, Option.bind_some, bD, iD, if_true, reduceIte, List.getElem?_cons_zero, List.getElem?_cons_succ])
local macro_rules | `(tactic| walk_at "CL.P08q") => `(tactic| try (dsimp only [rd, rds, sget, sset, fz, fzs, fzP, flt, store, stores, svOf, comps, mNames, back, backs, Ob.rv, Ob.kind, pars, par, fzIO, putOuts, outsOf, okSlots, pick, wipeE, restE, frT, Option.map_some, List.map_cons, List.map_nil, List.append_nil, List.nil_append, List.cons_append, List.replicate, Option.bind_some, bD, iD, if_true, reduceIte, List.getElem?_cons_zero, List.getElem?_cons_succ]))
local macro_rules | `(tactic| walk_at "OP.P08q") => `(tactic| first
  | (with_reducible assumption)
  | (apply_rules (transparency := .reducible) (maxDepth := 1) only [in_tup, in_lst, in_set, in_dic, ix_list0, ix_list1, ix_tup0, ix_tup1, o_eqI, o_neI, ix_evI, ix_evC, ix_evO, o_eqII, o_eqOI, o_eqIO, o_eqOO, o_neNilI, o_eqNilI, o_rev, o_isB, strsOf_strs])
  | ((with_reducible refine o_addS ?_); walk_at "SD.P08q")
  | ((with_reducible refine o_addT ?_); walk_at "SD.P08q")
  | ((with_reducible refine o_addL ?_); walk_at "SD.P08q")
  | ((with_reducible refine f_append ?_); walk_at "SD.P08q")
  | ((with_reducible refine o_div ?_ ?_) <;> walk_at "SD.P08q")
  | ((with_reducible refine o_mod ?_); walk_at "SD.P08q")
  | (with_reducible refine o_eqS (by first | assumption | exact ok_in | exact ok_out) (by first | assumption | exact ok_in | exact ok_out))
  | ((with_reducible refine o_ixS ?_ ?_) <;> walk_at "SD.P08q")
  | ((with_reducible refine o_ixT ?_ ?_) <;> walk_at "SD.P08q")
  | ((with_reducible refine f_setS ?_ ?_) <;> walk_at "SD.P08q")
  | ((with_reducible refine o_minL ?_); walk_at "SD.P08q")
  | ((with_reducible refine o_neNil ?_); (with_reducible assumption))
  | ((with_reducible refine o_eqNil ?_); (with_reducible assumption))
  | ((with_reducible refine f_popAt ?_ ?_ ?_) <;> walk_at "SD.P08q")
  | ((with_reducible exact ix_list0 _ _))
  | ((fail_if_success (with_reducible apply may_pop)); exact rfl)
  | (exact store_om rfl rfl)
  | (exact store_oo rfl rfl)
  | walk_at "SD.P08q")
local macro_rules | `(tactic| walk_at "EV1.P08q") => `(tactic| (first
  | (apply_rules (transparency := .reducible) (maxDepth := 500) only [u_thn, u_thnR, u_turn, u_turnR, u_finN, u_finR, u_inx, u_seq, u_ifS, u_skip, u_asgF, u_asg, u_asgT, u_idx, u_listR, u_ssI, u_ss, u_drop, u_ret, u_retN, u_retT, u_par, u_setIx, u_for, u_break, u_cont, u_c, u_newT, u_m1, u_m2, u_nil, u_cons, u_mB, u_tup, u_lst, u_test, u_tru, u_yes, u_andT, u_orT, u_notT, u_and, u_or, u_not, u_if, u_chain, u_noP, u_P, u_sl, u_meth, u_isi, u_isi2, u_call, u_callK, u_iter, u_enum, u_range1, u_range2, sp_tt, sp_ff, Exists.intro])
  | ((with_reducible refine u_mayVar ?_); first | (refine u_var rfl ?_) | (refine u_varO rfl ?_))
  | ((with_reducible refine u_mayWG ?_); first | (refine u_g (by first | (walk_at "CLEAN.P08q"; exact rfl) | (walk_at "CLEAN.P08q"; done) | exact store_om rfl rfl | exact store_oo rfl rfl) ?_) | (refine u_gs (by first | (walk_at "CLEAN.P08q"; exact rfl) | (walk_at "CLEAN.P08q"; done)) ?_))
  | ((with_reducible refine sp_dt ?_ ?_); focus (first | assumption | omega))
  | ((with_reducible refine sp_df ?_ ?_); focus (first | assumption | omega))
  | ((with_reducible refine sp_et ?_ ?_); focus (first | assumption | omega))
  | ((with_reducible refine sp_ndt ?_ ?_); focus (first | assumption | omega))
  | ((with_reducible refine sp_ndf ?_ ?_); focus (first | assumption | omega))
  | ((with_reducible refine sp_ef ?_ ?_); focus (first | assumption | omega))
  | (with_reducible refine sp_t (by assumption) ?_)
  | (with_reducible refine sp_f (by assumption) ?_)
  | (with_reducible refine sp_nt (by first | assumption | rfl) ?_)
  | (with_reducible refine sp_nf (by first | assumption | rfl) ?_)
  | (with_reducible refine sp_d (fun hb => ?_) (fun hb => ?_))
  | (with_reducible refine sp_nd (fun hb => ?_) (fun hb => ?_))
  | (with_reducible refine sp_e (fun hb => ?_) (fun hb => ?_))
  | (with_reducible refine sp_ne (fun hb => ?_) (fun hb => ?_))
  | (with_reducible refine sp_xf (fun hb => ?_) (fun hb => ?_))
  | (with_reducible refine sp_xt (fun hb => ?_) (fun hb => ?_))
  | (with_reducible refine sp_b (fun hb => ?_) (fun hb => ?_))
  | ((with_reducible refine u_mayWF ?_); (try (first | (with_reducible refine u_svs1 ?_) | (with_reducible refine u_svs2 ?_) | (with_reducible refine u_svs3 ?_) | (with_reducible refine u_svs4 ?_) | (with_reducible refine u_svs5 ?_) | (with_reducible refine u_svs6 ?_) | (with_reducible refine u_svs7 ?_) | (with_reducible refine u_svs8 ?_))); (first | ((with_reducible refine w_take (by assumption) ?_ ?_ ?_ ?_); (walk_at "SD.P08q"); (walk_at "SD.P08q"); (walk_at "SD.P08q"); intro r a1 c1 h1 h2 h3; try simp only [List.length_map, List.length_append, List.length_cons, List.length_nil] at h3) | fail))
  | ((with_reducible refine And.intro ?_ ?_); focus (first | (walk_at "CLEAN.P08q"; walk_at "OP.P08q"; done) | (walk_at "CLEAN.P08q"; done) | (walk_at "OP.P08q"; done)))
  | fail))
local macro_rules | `(tactic| walk_at "EV.P08q") => `(tactic| repeat' (first | walk_at "EV1.P08q" | fail))
local macro_rules | `(tactic| walk_at "CE.P08q") => `(tactic| try (dsimp only [sset, wipeE, restE, List.map, List.cons_append, List.nil_append, List.append_nil, List.replicate]))
theorem w_folk {l : List Str} {es : List Ev} {Q : PV → List (Option Ob) → Prop} (h1 : l.length ≤ 2000) (h2 : es.length ≤ 2000) (q : Q (.new (.lst ((l ++ arr es).map .str))) [none, none]) : WF fn__law_folk [.d (sD l), .d (lg es)] Q := by
  refine u_fn rfl ?_
  unfold m__law_folk
  walk_at "CLEAN.P08q"
  walk_at "EV.P08q"
  refine u_comp ev es (fun d acc e => acc = (arr d).map .str ∧ e = [some (.d (sD l)), some (.d (lg es)), none]) ?_
  walk_at "EV.P08q"
  refine ⟨⟨rfl, rfl⟩, ?_, ?_⟩
  · intro d x r acc e hl hi
    obtain ⟨rfl, rfl⟩ := hi
    have hlen := congrArg List.length hl
    rw [List.length_append, List.length_cons] at hlen
    have h3 := arr_len d
    rw [arr_snoc]
    cases x with
    | some y =>
      walk_at "EV.P08q"
      refine ⟨by simp, rfl⟩
    | none =>
      walk_at "EV.P08q"
      refine ⟨by simp, rfl⟩
  · intro acc e hi
    obtain ⟨rfl, rfl⟩ := hi
    have h3 := arr_len es
    walk_at "EV.P08q"
    rw [← List.map_append]
    exact q
end Ol
set_option Elab.async false
set_option linter.all false
set_option maxRecDepth 100000
set_option maxHeartbeats 4000000
/-! plain: places, the block, the first peak, the condition Switch -/
namespace Ol
open PySem PySem.Spec PyProof.Rows L2
def ix (ys : List Str) (z : Str) : Nat := (idxOf ys z).getD 0
theorem idx_split {pre post : List Str} {c : Str} (h : c ∉ pre) : idxOf (pre ++ c :: post) c = some pre.length := by
  unfold idxOf
  refine List.findIdx?_eq_some_iff_getElem.mpr ⟨by simp, by simp, fun j hj => ?_⟩
  rw [List.getElem_append_left hj]
  have : pre[j] ≠ c := fun z => h (z ▸ List.getElem_mem hj)
  simpa using this
theorem ix_mem {ys : List Str} {z : Str} (h : z ∈ ys) : idxOf ys z = some (ix ys z) ∧ ix ys z < ys.length ∧ ys[ix ys z]? = some z := by
  obtain ⟨pre, post, rfl, hn⟩ := List.eq_append_cons_of_mem h
  have e := idx_split (post := post) hn
  have e2 : ix (pre ++ z :: post) z = pre.length := by unfold ix; rw [e]; rfl
  rw [e2]
  exact ⟨e, by simp, by simp⟩
theorem ix_take {ys : List Str} {z : Str} {k : Nat} (h : z ∈ ys) : z ∈ ys.take k ↔ ix ys z < k := by
  obtain ⟨pre, post, rfl, hn⟩ := List.eq_append_cons_of_mem h
  have e := idx_split (post := post) hn
  have e2 : ix (pre ++ z :: post) z = pre.length := by unfold ix; rw [e]; rfl
  rw [e2, List.take_append]
  constructor
  · intro hz
    rcases List.mem_append.mp hz with hz | hz
    · exact absurd (List.mem_of_mem_take hz) hn
    · by_cases hk : pre.length < k
      · exact hk
      · rw [show k - pre.length = 0 by omega] at hz; simp at hz
  · intro hk
    refine List.mem_append_right _ ?_
    obtain ⟨j, hj⟩ : ∃ j, k - pre.length = j + 1 := ⟨k - pre.length - 1, by omega⟩
    rw [hj]
    exact List.mem_cons_self
theorem ix_inj {ys : List Str} {a b : Str} (ha : a ∈ ys) (hb : b ∈ ys) (h : ix ys a = ix ys b) : a = b := by
  have h1 := (ix_mem ha).2.2
  rw [h, (ix_mem hb).2.2] at h1
  exact (Option.some.inj h1).symm
theorem mem_plc {l cs : List Str} {i : Nat} {c : Str} (h : l[i]? = some c) (hc : c ∈ cs) : i ∈ plc l cs := by
  unfold plc
  refine List.mem_map.mpr ⟨(c, i), List.mem_filter.mpr ⟨?_, by simpa using hc⟩, rfl⟩
  obtain ⟨hi, he⟩ := List.getElem?_eq_some_iff.mp h
  rw [List.mem_iff_getElem?]
  exact ⟨i, by simp [hi, he]⟩
/-- the three parts of a lane -/
def spl (l line : List Str) : List Str × List Str × List Str := match plc line l with
  | [] => ([], [], line)
  | p0 :: ps => (line.take p0, (line.drop p0).take ((p0 :: ps).getLast (by simp) + 1 - p0), line.drop ((p0 :: ps).getLast (by simp) + 1))
def blk (l line : List Str) : List Str := (spl l line).2.1
def run (l line : List Str) : List Str := line.filter fun c => decide (c ∈ l)
inductive Dec (l line : List Str) : Prop where
  | no (h : plc line l = []) (h2 : ∀ x ∈ line, x ∉ l) (h3 : spl l line = ([], [], line))
  | yes (a m b : List Str) (p0 : Nat) (ps : List Nat) (h : plc line l = p0 :: ps) (h1 : line = a ++ m ++ b) (h2 : ∀ x ∈ a, x ∉ l) (h3 : ∀ x ∈ b, x ∉ l) (h4 : ∃ x r, m = x :: r ∧ x ∈ l) (h5 : ∃ x r, m = r ++ [x] ∧ x ∈ l) (h6 : spl l line = (a, m, b)) (h7 : a.length = p0)
theorem dec (l line : List Str) : Dec l line := by
  cases hp : plc line l with
  | nil =>
    refine .no hp (fun x hx hl => ?_) (by unfold spl; rw [hp])
    obtain ⟨i, hi⟩ := List.mem_iff_getElem?.mp hx
    have := mem_plc hi hl
    rw [hp] at this
    cases this
  | cons p0 ps =>
    have asc := plc_asc line l
    rw [hp] at asc
    have hm : ∀ {i : Nat} {c : Str}, line[i]? = some c → c ∈ l → p0 ≤ i ∧ i ≤ (p0 :: ps).getLast (by simp) := fun {i c} h1 h2 => by
      have h3 := mem_plc h1 h2
      rw [hp] at h3
      exact ⟨asc_head asc i h3, asc_last (by simp) asc i h3⟩
    obtain ⟨c0, g0, m0⟩ := plc_mem (l := line) (cs := l) (i := p0) (by rw [hp]; exact List.mem_cons_self)
    obtain ⟨c1, g1, m1⟩ := plc_mem (l := line) (cs := l) (i := (p0 :: ps).getLast (by simp)) (by rw [hp]; exact List.getLast_mem _)
    have hle : p0 ≤ (p0 :: ps).getLast (by simp) := asc_last (by simp) asc p0 List.mem_cons_self
    have hs : spl l line = (line.take p0, (line.drop p0).take ((p0 :: ps).getLast (by simp) + 1 - p0), line.drop ((p0 :: ps).getLast (by simp) + 1)) := by unfold spl; rw [hp]
    generalize (p0 :: ps).getLast (by simp) = pl at *
    have hpl : pl < line.length := (List.getElem?_eq_some_iff.mp g1).1
    refine .yes _ _ _ p0 ps hp ?_ ?_ ?_ ?_ ?_ hs ?_
    · have e1 : line.drop (pl + 1) = (line.drop p0).drop (pl + 1 - p0) := by rw [List.drop_drop]; congr 1; omega
      rw [e1, List.append_assoc, List.take_append_drop, List.take_append_drop]
    · intro x hx hl
      obtain ⟨i, hi⟩ := List.mem_iff_getElem?.mp hx
      rw [List.getElem?_take] at hi
      split at hi
      · have := (hm hi hl).1; omega
      · cases hi
    · intro x hx hl
      obtain ⟨i, hi⟩ := List.mem_iff_getElem?.mp hx
      rw [List.getElem?_drop] at hi
      have := (hm hi hl).2; omega
    · refine ⟨c0, (line.drop (p0 + 1)).take (pl - p0), ?_, m0⟩
      obtain ⟨q1, q2⟩ := List.getElem?_eq_some_iff.mp g0
      rw [List.drop_eq_getElem_cons q1, q2, show pl + 1 - p0 = (pl - p0) + 1 by omega, List.take_succ_cons]
    · refine ⟨c1, (line.drop p0).take (pl - p0), ?_, m1⟩
      rw [show pl + 1 - p0 = (pl - p0) + 1 by omega, List.take_add_one, List.getElem?_drop, show p0 + (pl - p0) = pl by omega, g1]
      rfl
    · rw [List.length_take]; omega
theorem filt_no {l : List Str} {a : List Str} (h : ∀ x ∈ a, x ∉ l) : (a.filter fun c => decide (c ∈ l)) = [] := List.filter_eq_nil_iff.mpr fun x hx => by simpa using h x hx
/-- the block is a run of the first lane -/
def runOk (l line : List Str) : Bool := match blk l line with
  | [] => true
  | m0 :: ms => decide ((l.drop (ix l m0)).take (m0 :: ms).length = m0 :: ms)
theorem blk_nil {l line : List Str} : blk l line = [] ↔ run l line = [] := by
  unfold blk run
  rcases dec l line with ⟨h, h2, h3⟩ | ⟨a, m, b, p0, ps, h, h1, h2, h3, ⟨x, r, h4, hx⟩, h5, h6, h7⟩
  · rw [h3, filt_no h2]
  · rw [h6]
    constructor
    · intro z; simp only at z; rw [h4] at z; cases z
    · intro z
      have := List.filter_eq_nil_iff.mp z x (by rw [h1, h4]; simp)
      simp [hx] at this
/-- what the law asks of the block -/
theorem run_iff {l line : List Str} {r0 : Str} {rs : List Str} (hr : run l line = r0 :: rs) : runOk l line = true ↔ (l.drop (ix l r0)).take (r0 :: rs).length = r0 :: rs ∧ (line.drop (ix line r0)).take (r0 :: rs).length = r0 :: rs := by
  rcases dec l line with ⟨h, h2, h3⟩ | ⟨a, m, b, p0, ps, h, h1, h2, h3, ⟨x, r, h4, hx⟩, ⟨y, r', h5, hy⟩, h6, h7⟩
  · unfold run at hr; rw [filt_no h2] at hr; cases hr
  · have hb : blk l line = m := by unfold blk; rw [h6]
    have hrun : run l line = m.filter fun c => decide (c ∈ l) := by
      unfold run
      rw [h1, List.filter_append, List.filter_append, filt_no h2, filt_no h3, List.nil_append, List.append_nil]
    have hx0 : r0 = x := by
      rw [hrun, h4, List.filter_cons, if_pos (by simpa using hx)] at hr
      exact (List.cons.inj hr).1.symm
    subst hx0
    have hix : ix line r0 = a.length := by
      have e : line = a ++ r0 :: (r ++ b) := by rw [h1, h4]; simp
      have hn : r0 ∉ a := fun z => h2 _ z hx
      unfold ix
      rw [e, idx_split hn]
      rfl
    have hd : line.drop (ix line r0) = m ++ b := by rw [hix, h1, List.append_assoc, List.drop_left]
    have ok : runOk l line = true ↔ (l.drop (ix l r0)).take m.length = m := by
      unfold runOk
      rw [hb, h4]
      simp
    rw [ok, hd]
    rw [← hr, hrun]
    constructor
    · intro z
      have hm : (m.filter fun c => decide (c ∈ l)) = m := List.filter_eq_self.mpr fun c hc => by
        rw [← z] at hc
        simpa using List.mem_of_mem_drop (List.mem_of_mem_take hc)
      rw [hm]
      exact ⟨z, by simp⟩
    · intro ⟨z1, z2⟩
      have hm : (m.filter fun c => decide (c ∈ l)) = m := by
        have hlen := List.length_filter_le (fun c => decide (c ∈ l)) m
        rw [List.take_append_of_le_length hlen] at z2
        by_cases hk : (m.filter fun c => decide (c ∈ l)).length = m.length
        · exact List.filter_eq_self.mpr (List.length_filter_eq_length_iff.mp hk)
        · exfalso
          generalize hk2 : (m.filter fun c => decide (c ∈ l)).length = k at *
          have e := List.take_append_drop k m
          have f : (m.filter fun c => decide (c ∈ l)) = ((m.take k).filter fun c => decide (c ∈ l)) ++ ((m.drop k).filter fun c => decide (c ∈ l)) := by rw [← List.filter_append, e]
          have f1 : ((m.take k).filter fun c => decide (c ∈ l)) = m.take k := List.filter_eq_self.mpr fun c hc => by
            rw [z2] at hc
            exact (List.mem_filter.mp hc).2
          have f2 := congrArg List.length f
          rw [f1, List.length_append, hk2, List.length_take] at f2
          have f3 : ((m.drop k).filter fun c => decide (c ∈ l)) = [] := List.eq_nil_of_length_eq_zero (by omega)
          have hy2 : y ∈ m.drop k := by
            rw [h5] at hk hlen ⊢
            simp only [List.length_append, List.length_singleton] at hk hlen
            rw [List.drop_append_of_le_length (by omega)]
            simp
          have := List.filter_eq_nil_iff.mp f3 y hy2
          simp [hy] at this
      rw [hm] at z1
      exact z1
theorem run_blk {l line : List Str} (h : runOk l line = true) : run l line = blk l line := by
  rcases dec l line with ⟨q, h2, h3⟩ | ⟨a, m, b, p0, ps, q, h1, h2, h3, ⟨x, r, h4, hx⟩, h5, h6, h7⟩
  · unfold run blk; rw [filt_no h2, h3]
  · have hb : blk l line = m := by unfold blk; rw [h6]
    have hrun : run l line = m.filter fun c => decide (c ∈ l) := by
      unfold run
      rw [h1, List.filter_append, List.filter_append, filt_no h2, filt_no h3, List.nil_append, List.append_nil]
    have ok : (l.drop (ix l x)).take m.length = m := by
      unfold runOk at h
      rw [hb, h4] at h
      rw [h4]
      simpa using h
    rw [hb, hrun]
    exact List.filter_eq_self.mpr fun c hc => by
      rw [← ok] at hc
      simpa using List.mem_of_mem_drop (List.mem_of_mem_take hc)
theorem spl_left {l line : List Str} {r0 : Str} {rs : List Str} (hr : run l line = r0 :: rs) : (spl l line).1 = line.take (ix line r0) := by
  rcases dec l line with ⟨h, h2, h3⟩ | ⟨a, m, b, p0, ps, h, h1, h2, h3, ⟨x, r, h4, hx⟩, ⟨y, r', h5, hy⟩, h6, h7⟩
  · unfold run at hr; rw [filt_no h2] at hr; cases hr
  · have hrun : run l line = m.filter fun c => decide (c ∈ l) := by
      unfold run
      rw [h1, List.filter_append, List.filter_append, filt_no h2, filt_no h3, List.nil_append, List.append_nil]
    have hx0 : r0 = x := by
      rw [hrun, h4, List.filter_cons, if_pos (by simpa using hx)] at hr
      exact (List.cons.inj hr).1.symm
    subst hx0
    have hix : ix line r0 = a.length := by
      have e : line = a ++ r0 :: (r ++ b) := by rw [h1, h4]; simp
      have hn : r0 ∉ a := fun z => h2 _ z hx
      unfold ix
      rw [e, idx_split hn]
      rfl
    rw [h6, hix, h1, List.append_assoc, List.take_left]
/-- the first peak -/
def nix (l : List Str) (es : List Ev) (line : List Str) (i : Nat) : Nat := ix (l ++ arr es) (line.getD i ⟨#[]⟩)
def pkP (l : List Str) (es : List Ev) (line : List Str) (i : Nat) : Bool := decide (nix l es line (i - 1) < nix l es line i) && decide (nix l es line (i + 1) < nix l es line i)
def pk (l : List Str) (es : List Ev) (line : List Str) : Option Nat := (List.range' 1 (line.length - 2)).find? (pkP l es line)
theorem pk_some {l : List Str} {es : List Ev} {line : List Str} {i : Nat} (h : ∀ j, j < i → pkP l es line (j + 1) = false) (hi : i < line.length - 2) (hp : pkP l es line (i + 1) = true) : pk l es line = some (i + 1) := by
  unfold pk
  refine List.find?_range'_eq_some.mpr ⟨hp, by rw [List.mem_range'_1]; omega, fun j h1 h2 => ?_⟩
  obtain ⟨k, rfl⟩ : ∃ k, j = k + 1 := ⟨j - 1, by omega⟩
  simpa using h k (by omega)
theorem pk_none {l : List Str} {es : List Ev} {line : List Str} (h : ∀ j, j < line.length - 2 → pkP l es line (j + 1) = false) : pk l es line = none := by
  unfold pk
  refine List.find?_eq_none.mpr fun j hj => ?_
  rw [List.mem_range'_1] at hj
  obtain ⟨k, rfl⟩ : ∃ k, j = k + 1 := ⟨j - 1, by omega⟩
  simpa using h k (by omega)
/-- the condition Switch -/
def car (es : List Ev) (p : Nat) : Str := (es.getD p none).getD ⟨#[]⟩
def pAt (es : List Ev) (line : List Str) (i : Nat) : Nat := (posP es line).getD i 0
def cAt (es : List Ev) (line : List Str) (i : Nat) : Str := car es (pAt es line i)
def mid (l : List Str) (es : List Ev) (line : List Str) : Str := match run l line with
  | r0 :: _ => r0
  | [] => cAt es line 0
def side (l : List Str) (es : List Ev) (line : List Str) (i : Nat) : Bool := decide (((ix line (cAt es line i) : Nat) : Int) < ((ix line (mid l es line) : Nat) : Int))
def snc (es : List Ev) (line : List Str) : Nat → Nat
  | 0 => 0
  | i + 1 => pAt es line i + 1
def need (l : List Str) (es : List Ev) (line : List Str) : Nat → Int
  | 0 => match run l line with
    | [] => 0
    | r0 :: rs => if side l es line 0 = true then (ix l r0 : Nat) else (l.length : Nat) - (ix l r0 : Nat) - ((r0 :: rs).length : Nat)
  | i + 1 => if (i = 0 ∧ run l line = []) ∨ side l es line i = side l es line (i + 1) then 0 else endN l.length (es.take (pAt es line i + 1)) - ((run l line).length : Nat) - (i + 1 : Nat)
def swP (l : List Str) (es : List Ev) (line : List Str) (i : Nat) : Bool := decide (depN (es.take (pAt es line i)) - depN (es.take (snc es line i)) < need l es line i)
def swAt (l : List Str) (es : List Ev) (line : List Str) : Option Nat := (List.range (posP es line).length).find? (swP l es line)
def befD (es : List Ev) (line : List Str) : Nat → D
  | 0 => .none
  | i + 1 => .str (cAt es line i)
theorem sw_some {l : List Str} {es : List Ev} {line : List Str} {i : Nat} (h : ∀ j, j < i → swP l es line j = false) (hi : i < (posP es line).length) (hp : swP l es line i = true) : swAt l es line = some i := by
  unfold swAt
  rw [List.range_eq_range']
  refine List.find?_range'_eq_some.mpr ⟨hp, by rw [List.mem_range'_1]; omega, fun j h1 h2 => ?_⟩
  simpa using h j (by omega)
theorem sw_none {l : List Str} {es : List Ev} {line : List Str} (h : ∀ j, j < (posP es line).length → swP l es line j = false) : swAt l es line = none := by
  unfold swAt
  refine List.find?_eq_none.mpr fun j hj => ?_
  rw [List.mem_range] at hj
  simpa using h j hj
/-- the first reason -/
def reasD (l : List Str) (es : List Ev) (line : List Str) : D :=
  if (line.length : Int) ≠ endN l.length es then .tuple [.str "cars"]
  else if runOk l line = false then .tuple [.str "block"]
  else match pk l es line with
    | some i => .tuple [.str "order", .int (i : Nat)]
    | none => match shortAt l es line with
      | some i => .tuple [.str "moment", .int (i : Nat)]
      | none => match swAt l es line with
        | some i => .tuple [.str "switch", befD es line i, .str (cAt es line i)]
        | none => .none
/-- places of the arriving cars -/
theorem posP_asc (es : List Ev) (cs : List Str) : (posP es cs).Pairwise (· < ·) := by
  unfold posP
  have h : es.zipIdx.Pairwise fun a b => a.2 < b.2 := by
    have h1 : (es.zipIdx.map Prod.snd).Pairwise (· < ·) := by
      rw [List.zipIdx_map_snd]
      exact List.pairwise_lt_range'
    exact List.pairwise_map.mp h1
  exact List.pairwise_map.mpr (h.filter _)
theorem posP_mem {es : List Ev} {cs : List Str} {p : Nat} (h : p ∈ posP es cs) : ∃ c, es[p]? = some (some c) ∧ c ∈ cs := by
  unfold posP at h
  obtain ⟨⟨x, i⟩, h1, rfl⟩ := List.mem_map.mp h
  obtain ⟨h2, h3⟩ := List.mem_filter.mp h1
  have h4 := zip_get h2
  cases x with
  | none => simp [inC] at h3
  | some c => exact ⟨c, h4, by simpa [inC] using h3⟩
theorem pAt_get {es : List Ev} {line : List Str} {i : Nat} (h : i < (posP es line).length) : (posP es line)[i]? = some (pAt es line i) := by
  unfold pAt
  simp [h]
theorem pAt_car {es : List Ev} {line : List Str} {i : Nat} (h : i < (posP es line).length) : es[pAt es line i]? = some (some (cAt es line i)) ∧ cAt es line i ∈ line ∧ cAt es line i ∈ arr es ∧ pAt es line i < es.length := by
  obtain ⟨c, h1, h2⟩ := posP_mem (List.mem_of_getElem? (pAt_get h))
  have e : cAt es line i = c := by
    unfold cAt car
    rw [List.getD_eq_getElem?_getD, h1]
    rfl
  rw [e]
  exact ⟨h1, h2, List.mem_filterMap.mpr ⟨some c, List.mem_of_getElem? h1, rfl⟩, (List.getElem?_eq_some_iff.mp h1).1⟩
theorem pAt_lt {es : List Ev} {line : List Str} {i j : Nat} (h : j < (posP es line).length) (hij : i < j) : pAt es line i < pAt es line j := by
  have asc := posP_asc es line
  rw [List.pairwise_iff_getElem] at asc
  have := asc i j (by omega) h hij
  unfold pAt
  simpa [h, show i < (posP es line).length by omega] using this
/-- cars of the log stand once -/
theorem arr_once {es : List Ev} {p q : Nat} {c : Str} (nd : (arr es).Nodup) (h1 : es[p]? = some (some c)) (h2 : es[q]? = some (some c)) : p = q := by
  have key : ∀ (es : List Ev) (p q : Nat), (arr es).Nodup → p < q → es[p]? = some (some c) → es[q]? = some (some c) → False := by
    intro es p q nd hpq h1 h2
    obtain ⟨hp, e1⟩ := List.getElem?_eq_some_iff.mp h1
    have hs : es = es.take p ++ some c :: es.drop (p + 1) := by
      rw [← e1, ← List.drop_eq_getElem_cons hp, List.take_append_drop]
    have hm : c ∈ arr (es.drop (p + 1)) := List.mem_filterMap.mpr ⟨some c, List.mem_of_getElem? (i := q - (p + 1)) (by rw [List.getElem?_drop]; rw [show p + 1 + (q - (p + 1)) = q by omega]; exact h2), rfl⟩
    rw [hs] at nd
    unfold arr at nd hm
    rw [List.filterMap_append, List.filterMap_cons] at nd
    have := (List.nodup_append.mp nd).2.1
    simp only [id] at this
    exact (List.nodup_cons.mp this).1 hm
  rcases Nat.lt_trichotomy p q with h | h | h
  · exact (key es p q nd h h1 h2).elim
  · exact h
  · exact (key es q p nd h h2 h1).elim
theorem cAt_inj {es : List Ev} {line : List Str} {i j : Nat} (nd : (arr es).Nodup) (hi : i < (posP es line).length) (hj : j < (posP es line).length) (h : cAt es line i = cAt es line j) : i = j := by
  have h1 := (pAt_car hi).1
  have h2 := (pAt_car hj).1
  rw [h] at h1
  have := arr_once nd h1 h2
  rcases Nat.lt_trichotomy i j with q | q | q
  · have := pAt_lt hj q; omega
  · exact q
  · have := pAt_lt hi q; omega
theorem dep_count (es : List Ev) : depN es = ((es.filter fun x => x.isNone).length : Nat) := by
  have key : ∀ (es : List Ev) (a : Int), es.foldl (fun a e => a + dep e) a = a + ((es.filter fun x => x.isNone).length : Nat) := by
    intro es
    induction es with
    | nil => intro a; simp
    | cons x r ih =>
      intro a
      rw [List.foldl_cons, ih]
      cases x <;> simp [dep, List.filter_cons] <;> omega
  have := key es 0
  unfold depN
  omega
theorem dep_between {es : List Ev} {a b : Nat} (h : a ≤ b) : depN (es.take b) - depN (es.take a) = ((((es.drop a).take (b - a)).filter fun x => x.isNone).length : Nat) := by
  have e : es.take b = es.take a ++ (es.drop a).take (b - a) := by
    rw [show b = a + (b - a) by omega, List.take_add]
    simp
  rw [dep_count, dep_count, e, List.filter_append, List.length_append]
  omega
theorem inter_len {a b : List Str} (ha : a.Nodup) (hb : b.Nodup) : (a.filter fun c => decide (c ∈ b)).length = (b.filter fun c => decide (c ∈ a)).length :=
  Nat.le_antisymm (nodup_le (ha.filter _) fun x hx => by
    obtain ⟨h1, h2⟩ := List.mem_filter.mp hx
    exact List.mem_filter.mpr ⟨by simpa using h2, by simpa using h1⟩) (nodup_le (hb.filter _) fun x hx => by
    obtain ⟨h1, h2⟩ := List.mem_filter.mp hx
    exact List.mem_filter.mpr ⟨by simpa using h2, by simpa using h1⟩)
/-- what is asked of the first lane, the log and the lane -/
structure Ln (l : List Str) (es : List Ev) (line : List Str) : Prop where
  nd : (l ++ arr es).Nodup
  ok : ∀ x ∈ l ++ arr es, PyData.strOk x = true
  l1 : l.length ≤ 2000
  l2 : es.length ≤ 2000
  ln : line.Nodup
  sub : ∀ x ∈ line, x ∈ l ++ arr es
theorem Ln.len {l : List Str} {es : List Ev} {line : List Str} (h : Ln l es line) : line.length ≤ 4000 := by
  have h3 := nodup_le h.ln h.sub
  have h4 := arr_len es
  have := h.l1
  have := h.l2
  rw [List.length_append] at h3
  omega
theorem Ln.okl {l : List Str} {es : List Ev} {line : List Str} (h : Ln l es line) : ∀ x ∈ l, PyData.strOk x = true := fun x hx => h.ok x (List.mem_append_left _ hx)
theorem Ln.oki {l : List Str} {es : List Ev} {line : List Str} (h : Ln l es line) : ∀ x ∈ line, PyData.strOk x = true := fun x hx => h.ok x (h.sub x hx)
theorem Ln.dis {l : List Str} {es : List Ev} {line : List Str} {x : Str} (h : Ln l es line) (h1 : x ∈ l) (h2 : x ∈ arr es) : False := (List.nodup_append.mp h.nd).2.2 x h1 x h2 rfl
def sdD (l : List Str) (es : List Ev) (line : List Str) (i : Nat) : D := if i = 0 ∧ run l line = [] then .none else .str (if side l es line i = true then "L" else "R")
def sds (l : List Str) (es : List Ev) (line : List Str) : List D := (List.range (posP es line).length).map fun i => .tuple [.str (cAt es line i), sdD l es line i]
theorem cs_range (es : List Ev) (line : List Str) : (posP es line).map (car es) = (List.range (posP es line).length).map (cAt es line) := by
  apply List.ext_getElem?
  intro i
  rw [List.getElem?_map, List.getElem?_map]
  by_cases h : i < (posP es line).length
  · rw [pAt_get h, List.getElem?_range h]
    rfl
  · rw [List.getElem?_eq_none (by omega), List.getElem?_eq_none (by rw [List.length_range]; omega)]
    rfl
def swD (l : List Str) (es : List Ev) (line : List Str) : D := match swAt l es line with
  | some i => .tuple [befD es line i, .str (cAt es line i)]
  | none => .none
theorem depN_nonneg (d : List Ev) : 0 ≤ depN d := by rw [dep_count]; omega
end Ol
set_option Elab.async false
set_option linter.all false
set_option maxRecDepth 100000
set_option maxHeartbeats 4000000
namespace Ol
open PySem PySem.Spec PyProof.Rows L2
/-- the stayers among the arrivals -/
def lt (cs : List Str) (d : List Ev) : List Str := (d.filterMap id).filter fun c => decide (c ∈ cs)
def rn (l cs : List Str) : List Str := l.filter fun c => decide (c ∈ cs)
/-- leavers present behind d -/
def tot (l : List Str) (cs : List Str) (d : List Ev) : Int := endN l.length d - ((rn l cs).length : Nat) - ((lt cs d).length : Nat)
theorem lt_snoc (cs : List Str) (d : List Ev) (x : Ev) : lt cs (d ++ [x]) = lt cs d ++ if inC cs x = true then x.toList else [] := by
  cases x with
  | none => simp [lt, inC]
  | some c => by_cases h : c ∈ cs <;> simp [lt, inC, h]
theorem tot_snoc (l cs : List Str) (d : List Ev) (x : Ev) : tot l cs (d ++ [x]) = tot l cs d + dl x - if inC cs x = true then 1 else 0 := by
  unfold tot
  rw [endN_snoc, lt_snoc]
  cases x with
  | none => simp [inC]; omega
  | some c =>
    by_cases h : inC cs (some c) = true
    · simp [h]; omega
    · simp [h]; omega
theorem tot_nil (l cs : List Str) : 0 ≤ tot l cs [] := by
  have : (rn l cs).length ≤ l.length := List.length_filter_le _ _
  simp [tot, lt, endN]
  omega
def lfIn (lf : List Int) : List Int := sortI (dist (lf ++ lf.map (· + 1)))
def lfOut (lf : List Int) (t : Int) : List Int := sortI (dist (lf.filter (fun x => decide (x ≤ t)) ++ (lf.filter fun x => decide (0 < x)).map (· - 1)))
theorem lf_len {zs : List Int} {N : Int} (h : ∀ x ∈ zs, 0 ≤ x ∧ x ≤ N) (hN : N ≤ 41) : (sortI (dist zs)).length ≤ 60 := by
  rw [len_sortI]
  by_cases z : 0 ≤ N
  · have := dist_bound (N := N.toNat) (zs := zs) fun x hx => by have := h x hx; omega
    omega
  · have : zs = [] := by
      cases zs with
      | nil => rfl
      | cons a r => have := h a List.mem_cons_self; omega
    subst this
    decide
theorem lt_filter (cs : List Str) : ∀ d : List Ev, (lt cs d).length = (d.filter (inC cs)).length
  | [] => rfl
  | none :: r => by
    have := lt_filter cs r
    simpa [lt, inC] using this
  | some c :: r => by
    have := lt_filter cs r
    unfold lt at this ⊢
    by_cases h : c ∈ cs
    · simp [inC, h]; simpa using this
    · simp [inC, h]; simpa using this
theorem tot_stay (l cs : List Str) (es : List Ev) (i : Nat) : tot l cs (es.take i) = endN l.length (es.take i) - stayN l es cs i := by
  unfold tot stayN nIn rn
  rw [lt_filter]
  omega
theorem short_none (l cs : List Str) (es : List Ev) : shortAt l es cs = none ↔ ∀ d1 r, es = d1 ++ r → 0 ≤ tot l cs d1 := by
  unfold shortAt
  rw [List.find?_eq_none]
  constructor
  · intro h d1 r he
    have hi : d1.length ∈ List.range' 0 (es.length + 1) := by
      rw [he]
      simp
      omega
    have := h _ hi
    have e : es.take d1.length = d1 := by rw [he, List.take_left]
    have z := tot_stay l cs es d1.length
    rw [e] at z
    rw [z]
    simp [shortP, e] at this
    omega
  · intro h i hi
    have := h (es.take i) (es.drop i) (List.take_append_drop i es).symm
    rw [tot_stay] at this
    simp [shortP]
    omega
end Ol
set_option Elab.async false
set_option linter.all false
set_option maxRecDepth 100000
set_option maxHeartbeats 4000000
namespace Ol
open PySem PySem.Spec PyProof.Rows L2
theorem snoc_ind {α : Type} {P : List α → Prop} (h0 : P []) (h1 : ∀ d x, P d → P (d ++ [x])) (d : List α) : P d := by
  have : ∀ n (d : List α), d.length = n → P d := by
    intro n
    induction n with
    | zero => intro d hd; rw [List.eq_nil_of_length_eq_zero hd]; exact h0
    | succ n ih =>
      intro d hd
      rcases List.eq_nil_or_concat d with z | ⟨r, y, z⟩
      · rw [z]; exact h0
      · rw [z, List.concat_eq_append]
        exact h1 r y (ih r (by rw [z, List.concat_eq_append] at hd; simp at hd; exact hd))
  exact this d.length d rfl
/-! the law's machine: leavers, least numbers of leavers on the left and on the right, the cars that stay -/
structure St where
  t : Int
  a : Int
  b : Int
  run : List Str
def rstep (line m : List Str) (c : Str) : List Str := match m with
  | [] => [c]
  | r0 :: rs => if ix line c < ix line r0 then c :: r0 :: rs else (r0 :: rs) ++ [c]
def mS (line : List Str) (s : St) : Ev → Option St
  | none => if s.t - 1 < 0 then none else some ⟨s.t - 1, s.a - 1, s.b - 1, s.run⟩
  | some c => if c ∈ line then
      match s.run with
      | [] => some ⟨s.t, 0, 0, [c]⟩
      | r0 :: rs => if ix line c < ix line r0 then (if s.a ≤ 0 then some ⟨s.t, 0, s.t, c :: r0 :: rs⟩ else none) else (if s.b ≤ 0 then some ⟨s.t, s.t, 0, (r0 :: rs) ++ [c]⟩ else none)
    else some ⟨s.t + 1, s.a, s.b, s.run⟩
def mF (line : List Str) (s0 : St) (d : List Ev) : Option St := d.foldl (fun o x => o.bind fun s => mS line s x) (some s0)
theorem mF_snoc (line : List Str) (s0 : St) (d : List Ev) (x : Ev) : mF line s0 (d ++ [x]) = (mF line s0 d).bind fun s => mS line s x := by
  unfold mF
  rw [List.foldl_append]
  rfl
def st0 (l line : List Str) : St := match run l line with
  | [] => ⟨(l.length : Nat), 0, 0, []⟩
  | r0 :: rs => ⟨(l.length : Nat) - ((r0 :: rs).length : Nat), (ix l r0 : Nat), (l.length : Nat) - (ix l r0 : Nat) - ((r0 :: rs).length : Nat), r0 :: rs⟩
def Rn (l line : List Str) (d : List Ev) : List Str := d.foldl (fun m x => match x with
  | some c => if c ∈ line then rstep line m c else m
  | none => m) (run l line)
theorem Rn_nil (l line : List Str) : Rn l line [] = run l line := rfl
theorem Rn_none (l line : List Str) (d : List Ev) : Rn l line (d ++ [none]) = Rn l line d := by unfold Rn; rw [List.foldl_append]; rfl
theorem Rn_out {l line : List Str} {d : List Ev} {c : Str} (h : c ∉ line) : Rn l line (d ++ [some c]) = Rn l line d := by unfold Rn; rw [List.foldl_append]; simp [h]
theorem Rn_in {l line : List Str} {d : List Ev} {c : Str} (h : c ∈ line) : Rn l line (d ++ [some c]) = rstep line (Rn l line d) c := by unfold Rn; rw [List.foldl_append]; simp [h]
theorem rstep_ext (line m : List Str) (c : Str) : ∃ X Y, rstep line m c = X ++ m ++ Y := by
  unfold rstep
  split
  · exact ⟨[c], [], by simp⟩
  · split
    · exact ⟨[c], [], by simp⟩
    · exact ⟨[], [c], by simp⟩
theorem Rn_ext (l line : List Str) (d : List Ev) : ∀ r : List Ev, ∃ X Y, Rn l line (d ++ r) = X ++ Rn l line d ++ Y := by
  refine snoc_ind ?_ ?_
  · exact ⟨[], [], by simp⟩
  · intro r x ⟨X, Y, ih⟩
    rw [← List.append_assoc]
    cases x with
    | none => rw [Rn_none]; exact ⟨X, Y, ih⟩
    | some c =>
      by_cases h : c ∈ line
      · rw [Rn_in h]
        obtain ⟨X2, Y2, e⟩ := rstep_ext line (Rn l line (d ++ r)) c
        refine ⟨X2 ++ X, Y ++ Y2, ?_⟩
        rw [e, ih]
        simp
      · rw [Rn_out h]; exact ⟨X, Y, ih⟩
theorem rstep_mem {line m : List Str} {c x : Str} : x ∈ rstep line m c ↔ x = c ∨ x ∈ m := by
  unfold rstep
  split
  · simp
  · split
    · simp
    · simp only [List.mem_append, List.mem_singleton]
      exact ⟨fun h => h.symm, fun h => h.symm⟩
theorem Rn_mem {l line : List Str} {x : Str} (d : List Ev) : x ∈ Rn l line d ↔ x ∈ run l line ∨ x ∈ lt line d := by
  revert d
  refine snoc_ind ?_ ?_
  · simp [Rn_nil, lt]
  · intro d y ih
    rw [lt_snoc]
    cases y with
    | none => rw [Rn_none, ih]; simp [inC]
    | some c =>
      by_cases h : c ∈ line
      · rw [Rn_in h, rstep_mem, ih]
        simp [inC, h]
        exact ⟨fun z => z.elim (fun z => .inr (.inr z)) (fun z => z.elim .inl fun z => .inr (.inl z)), fun z => z.elim (fun z => .inr (.inl z)) fun z => z.elim (fun z => .inr (.inr z)) .inl⟩
      · rw [Rn_out h, ih]; simp [inC, h]
theorem rstep_len (line m : List Str) (c : Str) : (rstep line m c).length = m.length + 1 := by
  unfold rstep
  split
  · rfl
  · split <;> simp
theorem Rn_len {l line : List Str} (d : List Ev) : (Rn l line d).length = (run l line).length + (lt line d).length := by
  revert d
  refine snoc_ind ?_ ?_
  · simp [Rn_nil, lt]
  · intro d y ih
    rw [lt_snoc]
    cases y with
    | none => rw [Rn_none, ih]; simp [inC]
    | some c =>
      by_cases h : c ∈ line
      · rw [Rn_in h, rstep_len, ih]
        simp [inC, h]
        omega
      · rw [Rn_out h, ih]; simp [inC, h]
theorem mS_none {line : List Str} {s s' : St} : mS line s none = some s' ↔ 0 ≤ s.t - 1 ∧ s' = ⟨s.t - 1, s.a - 1, s.b - 1, s.run⟩ := by
  show (if s.t - 1 < 0 then none else some (St.mk (s.t - 1) (s.a - 1) (s.b - 1) s.run)) = some s' ↔ _
  split
  · simp; omega
  · simp
    exact ⟨fun h => ⟨by omega, h.symm⟩, fun h => h.2.symm⟩
theorem mS_out {line : List Str} {s s' : St} {c : Str} (h : c ∉ line) : mS line s (some c) = some s' ↔ s' = ⟨s.t + 1, s.a, s.b, s.run⟩ := by
  show (if c ∈ line then _ else some (St.mk (s.t + 1) s.a s.b s.run)) = some s' ↔ _
  rw [if_neg h]
  simp
  exact eq_comm
theorem mS_in0 {line : List Str} {s s' : St} {c : Str} (h : c ∈ line) (h2 : s.run = []) : mS line s (some c) = some s' ↔ s' = ⟨s.t, 0, 0, [c]⟩ := by
  show (if c ∈ line then _ else _) = some s' ↔ _
  rw [if_pos h, h2]
  simp
  exact eq_comm
theorem mS_inL {line : List Str} {s s' : St} {c r0 : Str} {rs : List Str} (h : c ∈ line) (h2 : s.run = r0 :: rs) (h3 : ix line c < ix line r0) : mS line s (some c) = some s' ↔ s.a ≤ 0 ∧ s' = ⟨s.t, 0, s.t, c :: r0 :: rs⟩ := by
  show (if c ∈ line then _ else _) = some s' ↔ _
  rw [if_pos h, h2]
  simp only [h3, if_true]
  split
  · simp [*]; exact eq_comm
  · simp [*]
theorem mS_inR {line : List Str} {s s' : St} {c r0 : Str} {rs : List Str} (h : c ∈ line) (h2 : s.run = r0 :: rs) (h3 : ¬ ix line c < ix line r0) : mS line s (some c) = some s' ↔ s.b ≤ 0 ∧ s' = ⟨s.t, s.t, 0, r0 :: rs ++ [c]⟩ := by
  show (if c ∈ line then _ else _) = some s' ↔ _
  rw [if_pos h, h2]
  simp only [h3, if_false]
  split
  · simp [*]; exact eq_comm
  · simp [*]
theorem mF_run {l line : List Str} (d : List Ev) : ∀ s, mF line (st0 l line) d = some s → s.run = Rn l line d := by
  revert d
  refine snoc_ind ?_ ?_
  · intro s h
    have : st0 l line = s := Option.some.inj h
    rw [← this, Rn_nil]
    unfold st0
    split
    · rename_i e; rw [e]
    · rename_i e; rw [e]
  · intro d x ih s h
    rw [mF_snoc, Option.bind_eq_some_iff] at h
    obtain ⟨s1, h1, h2⟩ := h
    have i1 := ih s1 h1
    cases x with
    | none =>
      rw [Rn_none, ← i1]
      rw [(mS_none.mp h2).2]
    | some c =>
      by_cases hc : c ∈ line
      · rw [Rn_in hc, ← i1]
        unfold rstep
        cases e : s1.run with
        | nil => rw [(mS_in0 hc e).mp h2]
        | cons r0 rs =>
          simp only
          by_cases q : ix line c < ix line r0
          · rw [if_pos q, ((mS_inL hc e q).mp h2).2]
          · rw [if_neg q, ((mS_inR hc e q).mp h2).2]
      · rw [Rn_out hc, ← i1, (mS_out hc).mp h2]
/-! no peak -/
def Val (f : Str → Nat) (m : List Str) : Prop := ∀ X u v w Y, m = X ++ u :: v :: w :: Y → ¬ (f u < f v ∧ f w < f v)
theorem getD_app {X Y : List Str} {i : Nat} : (X ++ Y).getD (X.length + i) ⟨#[]⟩ = Y.getD i ⟨#[]⟩ := by
  rw [List.getD_eq_getElem?_getD, List.getD_eq_getElem?_getD, List.getElem?_append_right (by omega)]
  congr 2
  omega
theorem pk_val {l : List Str} {es : List Ev} {line : List Str} : pk l es line = none ↔ Val (ix (l ++ arr es)) line := by
  constructor
  · intro h X u v w Y e hh
    unfold pk at h
    have h1 := List.find?_eq_none.mp h (X.length + 1) (by rw [List.mem_range'_1, e]; simp; omega)
    have g0 : line.getD X.length ⟨#[]⟩ = u := by rw [e]; exact getD_app (i := 0)
    have g1 : line.getD (X.length + 1) ⟨#[]⟩ = v := by rw [e]; exact getD_app (i := 1)
    have g2 : line.getD (X.length + 2) ⟨#[]⟩ = w := by rw [e]; exact getD_app (i := 2)
    apply h1
    unfold pkP nix
    rw [show X.length + 1 - 1 = X.length by omega, g0, g1, g2]
    simp
    exact hh
  · intro h
    refine pk_none fun j hj => ?_
    have e : line = line.take j ++ line[j] :: line[j + 1] :: line[j + 2] :: line.drop (j + 3) := by
      rw [← List.drop_eq_getElem_cons, ← List.drop_eq_getElem_cons, ← List.drop_eq_getElem_cons, List.take_append_drop]
    have h1 := h _ _ _ _ _ e
    unfold pkP nix
    rw [show j + 1 - 1 = j by omega]
    simp only [List.getD_eq_getElem?_getD, List.getElem?_eq_getElem (show j < line.length by omega), List.getElem?_eq_getElem (show j + 1 < line.length by omega), List.getElem?_eq_getElem (show j + 1 + 1 < line.length by omega), Option.getD_some, Bool.and_eq_false_iff, decide_eq_false_iff_not]
    rw [Classical.not_and_iff_not_or_not] at h1
    exact h1
theorem Val.cons {f : Str → Nat} {m : List Str} {c : Str} (h : Val f m) (hc : ∀ x ∈ m, f x < f c) : Val f (c :: m) := by
  intro X u v w Y e hh
  cases X with
  | nil =>
    obtain ⟨rfl, e2⟩ := List.cons.inj e
    have := hc v (by rw [e2]; simp)
    omega
  | cons x X =>
    obtain ⟨rfl, e2⟩ := List.cons.inj e
    exact h X u v w Y e2 hh
theorem Val.snoc {f : Str → Nat} {m : List Str} {c : Str} (h : Val f m) (hc : ∀ x ∈ m, f x < f c) : Val f (m ++ [c]) := by
  intro X u v w Y e hh
  rcases List.eq_nil_or_concat Y with z | ⟨Y', y, z⟩
  · subst z
    have e2 : m ++ [c] = (X ++ [u, v]) ++ [w] := by rw [e]; simp
    obtain ⟨e3, e4⟩ := List.append_inj' e2 rfl
    have e5 : c = w := by simpa using e4
    have := hc v (by rw [e3]; simp)
    rw [e5] at this
    omega
  · subst z
    have e2 : m ++ [c] = (X ++ u :: v :: w :: Y') ++ [y] := by rw [e]; simp
    obtain ⟨e3, e4⟩ := List.append_inj' e2 rfl
    exact h X u v w Y' e3 hh
theorem Val.suf {f : Str → Nat} {a b : List Str} (h : Val f (a ++ b)) : Val f b := fun X u v w Y e => h (a ++ X) u v w Y (by rw [e]; simp)
theorem Val.pre {f : Str → Nat} {a b : List Str} (h : Val f (a ++ b)) : Val f a := fun X u v w Y e => h X u v w (Y ++ b) (by rw [e]; simp)
/-- once it rises, it rises on -/
theorem Val.asc {f : Str → Nat} : ∀ {rest : List Str} {x y : Str}, (∀ a b, a ∈ x :: y :: rest → b ∈ x :: y :: rest → f a = f b → a = b) → (x :: y :: rest).Nodup → Val f (x :: y :: rest) → f x < f y → ∀ z ∈ rest, f y < f z
  | [], _, _, _, _, _, _, z, hz => by cases hz
  | w :: rest, x, y, inj, nd, h, hxy, z, hz => by
    have hyw : f y < f w := by
      have h1 := h [] x y w rest rfl
      have h2 : f y ≠ f w := fun e => by
        have := inj y w (by simp) (by simp) e
        subst this
        simp at nd
      omega
    rcases List.mem_cons.mp hz with rfl | hz
    · exact hyw
    · have := Val.asc (rest := rest) (x := y) (y := w) (fun a b ha hb => inj a b (List.mem_cons_of_mem _ ha) (List.mem_cons_of_mem _ hb)) (List.nodup_cons.mp nd).2 (Val.suf (a := [x]) h) hyw z hz
      omega
theorem Val.rev {f : Str → Nat} {m : List Str} (h : Val f m) : Val f m.reverse := by
  intro X u v w Y e hh
  have e2 : m = Y.reverse ++ w :: v :: u :: X.reverse := by
    have := congrArg List.reverse e
    rw [List.reverse_reverse] at this
    rw [this]
    simp
  exact h _ _ _ _ _ e2 ⟨hh.2, hh.1⟩
theorem Val.desc {f : Str → Nat} {rest : List Str} {x y : Str} (inj : ∀ a b, a ∈ rest ++ [y, x] → b ∈ rest ++ [y, x] → f a = f b → a = b) (nd : (rest ++ [y, x]).Nodup) (h : Val f (rest ++ [y, x])) (hxy : f x < f y) : ∀ z ∈ rest, f y < f z := by
  have e : (rest ++ [y, x]).reverse = x :: y :: rest.reverse := by simp
  intro z hz
  refine Val.asc (rest := rest.reverse) (x := x) (y := y) ?_ ?_ ?_ hxy z (by simpa using hz)
  · intro a b ha hb
    rw [← e] at ha hb
    exact inj a b (List.mem_reverse.mp ha) (List.mem_reverse.mp hb)
  · rw [← e]
    exact ((List.reverse_perm _).nodup_iff).mpr nd
  · rw [← e]
    exact h.rev
/-! numbers of the cars -/
theorem ix_at {ys : List Str} (nd : ys.Nodup) {i : Nat} {x : Str} (h : ys[i]? = some x) : ix ys x = i := by
  obtain ⟨pre, post, e, hn⟩ : ∃ pre post, ys = pre ++ x :: post ∧ pre.length = i := by
    obtain ⟨hi, e⟩ := List.getElem?_eq_some_iff.mp h
    refine ⟨ys.take i, ys.drop (i + 1), ?_, by rw [List.length_take]; omega⟩
    rw [← e, ← List.drop_eq_getElem_cons, List.take_append_drop]
  have hx : x ∉ pre := fun z => by
    rw [e] at nd
    exact (List.nodup_append.mp nd).2.2 x z x List.mem_cons_self rfl
  unfold ix
  rw [e, idx_split hx, ← hn]
  rfl
theorem ix_pw {ys : List Str} (nd : ys.Nodup) : ys.Pairwise fun x y => ix ys x < ix ys y := by
  rw [List.pairwise_iff_getElem]
  intro i j hi hj hij
  rw [ix_at nd (List.getElem?_eq_getElem hi), ix_at nd (List.getElem?_eq_getElem hj)]
  exact hij
theorem ix_mid {A B : List Str} {c : Str} (nd : (A ++ c :: B).Nodup) : ix (A ++ c :: B) c = A.length := ix_at nd (by simp)
theorem ix_preI {A B : List Str} {x : Str} (h : x ∈ A) : ix (A ++ B) x < A.length := (ix_take (List.mem_append_left _ h)).mp (by rw [List.take_left]; exact h)
theorem ix_post {A B : List Str} {x : Str} (nd : (A ++ B).Nodup) (h : x ∈ B) : A.length ≤ ix (A ++ B) x := by
  have h1 := (ix_take (ys := A ++ B) (z := x) (k := A.length) (List.mem_append_right _ h))
  rw [List.take_left] at h1
  by_cases q : ix (A ++ B) x < A.length
  · exact absurd rfl ((List.nodup_append.mp nd).2.2 x (h1.mpr q) x h)
  · omega
section
variable {l line : List Str} {es : List Ev}
theorem arr_app (d r : List Ev) : arr (d ++ r) = arr d ++ arr r := by simp [arr]
theorem split_at {d r : List Ev} {c : Str} (e : es = d ++ some c :: r) : l ++ arr es = (l ++ arr d) ++ c :: arr r := by
  rw [e, arr_app]
  simp [arr]
theorem lt_mem {d : List Ev} {x : Str} : x ∈ lt line d ↔ x ∈ arr d ∧ x ∈ line := by
  unfold lt
  rw [List.mem_filter]
  simp [arr]
theorem run_mem' {x : Str} : x ∈ run l line ↔ x ∈ line ∧ x ∈ l := by
  unfold run
  rw [List.mem_filter]
  simp
theorem Rn_sub {d : List Ev} {x : Str} (h : x ∈ Rn l line d) : x ∈ l ++ arr d ∧ x ∈ line := by
  rcases (Rn_mem d).mp h with h | h
  · have := run_mem'.mp h
    exact ⟨List.mem_append_left _ this.2, this.1⟩
  · have := lt_mem.mp h
    exact ⟨List.mem_append_right _ this.1, this.2⟩
theorem Rn_all (K : Ln l es line) {x : Str} (h : x ∈ line) : x ∈ Rn l line es := by
  rw [Rn_mem]
  rcases List.mem_append.mp (K.sub x h) with q | q
  · exact .inl (run_mem'.mpr ⟨h, q⟩)
  · exact .inr (lt_mem.mpr ⟨q, h⟩)
theorem num_lt (K : Ln l es line) {d r : List Ev} {c x : Str} (e : es = d ++ some c :: r) (h : x ∈ l ++ arr d) : ix (l ++ arr es) x < ix (l ++ arr es) c := by
  have nd := K.nd
  rw [split_at e] at nd ⊢
  rw [ix_mid nd]
  exact ix_preI h
theorem num_gt (K : Ln l es line) {d r : List Ev} {c x : Str} (e : es = d ++ some c :: r) (hx : x ∈ line) (hc : x ≠ c) (h : x ∉ Rn l line d) : ix (l ++ arr es) c < ix (l ++ arr es) x := by
  have nd := K.nd
  have hk := K.sub x hx
  rw [split_at e] at nd hk ⊢
  rw [ix_mid nd]
  have hp : x ∉ l ++ arr d := fun z => by
    apply h
    rw [Rn_mem]
    rcases List.mem_append.mp z with z | z
    · exact .inl (run_mem'.mpr ⟨hx, z⟩)
    · exact .inr (lt_mem.mpr ⟨z, hx⟩)
  have hq : x ∈ arr r := by
    rcases List.mem_append.mp hk with z | z
    · exact absurd z hp
    · rcases List.mem_cons.mp z with z | z
      · exact absurd z hc
      · exact z
  have nd2 : ((l ++ arr d ++ [c]) ++ arr r).Nodup := by simpa using nd
  have := ix_post nd2 hq
  rw [show (l ++ arr d ++ [c]) ++ arr r = (l ++ arr d) ++ c :: arr r by simp] at this
  simp only [List.length_append, List.length_singleton] at this ⊢
  omega
theorem Rn_fresh (K : Ln l es line) {d r : List Ev} {c : Str} (e : es = d ++ some c :: r) : c ∉ Rn l line d := fun h => by
  have h1 := (Rn_sub h).1
  have nd := K.nd
  rw [split_at e] at nd
  exact (List.nodup_append.mp nd).2.2 c h1 c List.mem_cons_self rfl
/-- A1: what the machine puts together has no peak -/
theorem Rn_val (K : Ln l es line) (h0 : Val (ix (l ++ arr es)) (run l line)) (d : List Ev) : ∀ r, es = d ++ r → Val (ix (l ++ arr es)) (Rn l line d) := by
  revert d
  refine snoc_ind ?_ ?_
  · intro r _; rw [Rn_nil]; exact h0
  · intro d x ih r e
    have e1 : es = d ++ x :: r := by rw [e]; simp
    have i1 := ih _ e1
    cases x with
    | none => rw [Rn_none]; exact i1
    | some c =>
      by_cases hc : c ∈ line
      · rw [Rn_in hc]
        have hlt : ∀ x ∈ Rn l line d, ix (l ++ arr es) x < ix (l ++ arr es) c := fun x hx => num_lt K e1 (Rn_sub hx).1
        unfold rstep
        split
        · intro X u v w Y e; 
          have := congrArg List.length e
          simp at this
          omega
        · rename_i r0 rs hm
          rw [hm] at i1 hlt
          split
          · exact i1.cons hlt
          · exact i1.snoc hlt
      · rw [Rn_out hc]; exact i1
/-- A2: the machine puts together a lane without peaks -/
theorem Rn_line (K : Ln l es line) (hr : ∃ X Y, line = X ++ run l line ++ Y) (hv : Val (ix (l ++ arr es)) line) (d : List Ev) : ∀ r, es = d ++ r → ∃ X Y, line = X ++ Rn l line d ++ Y := by
  revert d
  refine snoc_ind ?_ ?_
  · intro r _; exact hr
  · intro d x ih r e
    have e1 : es = d ++ x :: r := by rw [e]; simp
    obtain ⟨X, Y, hl⟩ := ih _ e1
    cases x with
    | none => rw [Rn_none]; exact ⟨X, Y, hl⟩
    | some c =>
      by_cases hc : c ∈ line
      · rw [Rn_in hc]
        have fr := Rn_fresh K e1
        have nd := K.ln
        have inj : ∀ a b, a ∈ line → b ∈ line → ix (l ++ arr es) a = ix (l ++ arr es) b → a = b := fun a b ha hb => ix_inj (K.sub a ha) (K.sub b hb)
        have gt := fun x => @num_gt l line es K d r c x e1
        have lo := fun x (h : x ∈ Rn l line d) => num_lt K e1 (Rn_sub h).1
        unfold rstep
        cases hm : Rn l line d with
        | nil =>
          obtain ⟨A, B, h⟩ := List.append_of_mem hc
          exact ⟨A, B, by rw [h]; simp⟩
        | cons r0 rs =>
          rw [hm] at hl fr gt lo
          have lo0 := lo r0 List.mem_cons_self
          have hx := hc
          rw [hl] at hx
          rcases List.mem_append.mp hx with hx | hx
          · rcases List.mem_append.mp hx with hx | hx
            · obtain ⟨X1, X2, h1⟩ := List.append_of_mem hx
              have h2 : X2 = [] := by
                cases X2 with
                | nil => rfl
                | cons u X3 =>
                  exfalso
                  have e3 : line = X1 ++ (c :: u :: (X3 ++ (r0 :: rs) ++ Y)) := by rw [hl, h1]; simp
                  have nd2 := nd
                  rw [e3] at nd2
                  have nd3 := (List.nodup_append.mp nd2).2.1
                  have hv2 : Val (ix (l ++ arr es)) (c :: u :: (X3 ++ (r0 :: rs) ++ Y)) := Val.suf (a := X1) (by rw [← e3]; exact hv)
                  have sub : ∀ z, z ∈ c :: u :: (X3 ++ (r0 :: rs) ++ Y) → z ∈ line := fun z hz => by rw [e3]; exact List.mem_append_right _ hz
                  have hu : u ∉ r0 :: rs := fun z => by
                    have := (List.nodup_cons.mp (List.nodup_cons.mp nd3).2).1
                    exact this (List.mem_append_left _ (List.mem_append_right _ z))
                  have huc : u ≠ c := fun z => by
                    subst z
                    exact (List.nodup_cons.mp nd3).1 List.mem_cons_self
                  have g1 := gt u (sub u (by simp)) huc hu
                  have := Val.asc (fun a b ha hb => inj a b (sub a ha) (sub b hb)) nd3 hv2 g1 r0 (by simp)
                  omega
              subst h2
              have e3 : line = X1 ++ c :: (r0 :: rs ++ Y) := by rw [hl, h1]; simp
              have nd2 := nd
              rw [e3] at nd2
              have i1 : ix line c = X1.length := by rw [e3]; exact ix_mid nd2
              have i2 : ix line r0 = X1.length + 1 := by
                have e4 : line = (X1 ++ [c]) ++ r0 :: (rs ++ Y) := by rw [e3]; simp
                rw [e4] at nd ⊢
                rw [ix_mid nd]
                simp
              simp only
              rw [if_pos (by omega)]
              exact ⟨X1, Y, by rw [e3]; simp⟩
            · exact absurd hx fr
          · obtain ⟨Y1, Y2, h1⟩ := List.append_of_mem hx
            have h2 : Y1 = [] := by
              rcases List.eq_nil_or_concat Y1 with z | ⟨Y3, u, z⟩
              · exact z
              · exfalso
                rw [List.concat_eq_append] at z
                have e3 : line = ((X ++ (r0 :: rs) ++ Y3) ++ [u, c]) ++ Y2 := by rw [hl, h1, z]; simp
                have nd2 := nd
                rw [e3] at nd2
                have nd3 := (List.nodup_append.mp nd2).1
                have hv2 : Val (ix (l ++ arr es)) ((X ++ (r0 :: rs) ++ Y3) ++ [u, c]) := Val.pre (b := Y2) (by rw [← e3]; exact hv)
                have sub : ∀ z, z ∈ (X ++ (r0 :: rs) ++ Y3) ++ [u, c] → z ∈ line := fun z hz => by rw [e3]; exact List.mem_append_left _ hz
                have nd4 := List.nodup_append.mp nd3
                have hu : u ∉ r0 :: rs := fun z => nd4.2.2 u (List.mem_append_left _ (List.mem_append_right _ z)) u (by simp) rfl
                have huc : u ≠ c := fun z => by
                  subst z
                  have := nd4.2.1
                  simp at this
                have g1 := gt u (sub u (by simp)) huc hu
                have := Val.desc (fun a b ha hb => inj a b (sub a ha) (sub b hb)) nd3 hv2 g1 r0 (by simp)
                omega
            subst h2
            have e3 : line = (X ++ (r0 :: rs)) ++ c :: Y2 := by rw [hl, h1]; simp
            have nd2 := nd
            rw [e3] at nd2
            have i1 : ix line c = (X ++ (r0 :: rs)).length := by rw [e3]; exact ix_mid nd2
            have i2 : ix line r0 = X.length := by
              have e4 : line = X ++ r0 :: (rs ++ c :: Y2) := by rw [e3]; simp
              rw [e4] at nd ⊢
              exact ix_mid nd
            simp only
            rw [if_neg (by rw [i1, i2]; simp)]
            exact ⟨X, Y2, by rw [e3]; simp⟩
      · rw [Rn_out hc]; exact ⟨X, Y, hl⟩
theorem Rn_eq (K : Ln l es line) (h : ∃ X Y, line = X ++ Rn l line es ++ Y) : Rn l line es = line := by
  obtain ⟨X, Y, h⟩ := h
  have nd := K.ln
  have hX : X = [] := by
    cases X with
    | nil => rfl
    | cons x X =>
      exfalso
      have hx : x ∈ Rn l line es := Rn_all K (by rw [h]; simp)
      rw [h] at nd
      have := (List.nodup_append.mp (List.nodup_append.mp nd).1).2.2 x List.mem_cons_self x hx
      exact this rfl
  have hY : Y = [] := by
    cases Y with
    | nil => rfl
    | cons y Y =>
      exfalso
      have hx : y ∈ Rn l line es := Rn_all K (by rw [h]; simp)
      rw [h] at nd
      exact (List.nodup_append.mp nd).2.2 y (List.mem_append_right _ hx) y List.mem_cons_self rfl
  rw [hX, hY] at h
  simpa using h.symm
def seg (l : List Str) (p0 pl : Nat) : List Str := (l.drop p0).take (pl + 1 - p0)
def eOk (l line : List Str) : Prop := match plc l line with
  | [] => True
  | p0 :: ps => seg l p0 ((p0 :: ps).getLast (by simp)) = run l line
theorem run_nil_plc (h : run l line = []) : plc l line = [] := by
  cases hp : plc l line with
  | nil => rfl
  | cons p ps =>
    obtain ⟨c, h1, h2⟩ := plc_mem (l := l) (cs := line) (i := p) (by rw [hp]; exact List.mem_cons_self)
    have : c ∈ run l line := run_mem'.mpr ⟨h2, List.mem_of_getElem? h1⟩
    rw [h] at this
    cases this
theorem eOk_of (nd : l.Nodup) (h : runOk l line = true) : eOk l line := by
  unfold eOk
  cases hr : run l line with
  | nil => rw [run_nil_plc hr]; trivial
  | cons r0 rs =>
    obtain ⟨s1, _⟩ := (run_iff hr).mp h
    have hm : r0 ∈ line ∧ r0 ∈ l := run_mem'.mp (by rw [hr]; exact List.mem_cons_self)
    have g0 := (ix_mem hm.2).2.2
    have m0 := mem_plc g0 hm.1
    have inr : ∀ p ∈ plc l line, ix l r0 ≤ p ∧ p < ix l r0 + (r0 :: rs).length := fun p hp => by
      obtain ⟨c, h1, h2⟩ := plc_mem hp
      have h3 : c ∈ run l line := run_mem'.mpr ⟨h2, List.mem_of_getElem? h1⟩
      rw [hr, ← s1] at h3
      obtain ⟨j, hj⟩ := List.mem_iff_getElem?.mp h3
      rw [List.getElem?_take] at hj
      split at hj
      · rw [List.getElem?_drop] at hj
        have e1 := ix_at nd hj
        have e2 := ix_at nd h1
        omega
      · cases hj
    cases hp : plc l line with
    | nil => rw [hp] at m0; cases m0
    | cons p0 ps =>
      have asc := plc_asc l line
      rw [hp] at asc inr m0
      have a1 := asc_head asc _ m0
      have a2 := (inr p0 List.mem_cons_self).1
      have a3 := (inr _ (List.getLast_mem (l := p0 :: ps) (by simp))).2
      have hlen := congrArg List.length s1
      rw [List.length_take, List.length_drop] at hlen
      have hk : ix l r0 + (r0 :: rs).length - 1 ∈ p0 :: ps := by
        rw [← hp]
        have hlt : ix l r0 + (r0 :: rs).length - 1 < l.length := by simp only [List.length_cons] at hlen ⊢; omega
        obtain ⟨y, hc⟩ : ∃ y, l[ix l r0 + (r0 :: rs).length - 1]? = some y := ⟨_, List.getElem?_eq_getElem hlt⟩
        refine mem_plc hc ?_
        have : y ∈ run l line := by
          rw [hr]
          rw [← s1]
          refine List.mem_of_getElem? (i := (r0 :: rs).length - 1) ?_
          rw [List.getElem?_take, if_pos (by simp), List.getElem?_drop, show ix l r0 + ((r0 :: rs).length - 1) = ix l r0 + (r0 :: rs).length - 1 by simp only [List.length_cons]; omega]
          exact hc
        exact (run_mem'.mp this).1
      have a4 := asc_last (l := p0 :: ps) (by simp) asc _ hk
      simp only
      unfold seg
      generalize (p0 :: ps).getLast (by simp) = pl at *
      have e1 : p0 = ix l r0 := by omega
      have e2 : pl + 1 - p0 = (r0 :: rs).length := by simp only [List.length_cons] at *; omega
      rw [e2, e1]
      exact s1
theorem seg_len {p0 : Nat} {ps : List Nat} (hp : plc l line = p0 :: ps) : (seg l p0 ((p0 :: ps).getLast (by simp))).length = (p0 :: ps).getLast (by simp) + 1 - p0 ∧ p0 ≤ (p0 :: ps).getLast (by simp) := by
  have asc := plc_asc l line
  rw [hp] at asc
  have a1 := asc_last (l := p0 :: ps) (by simp) asc p0 List.mem_cons_self
  obtain ⟨c, h1, h2⟩ := plc_mem (l := l) (cs := line) (i := (p0 :: ps).getLast (by simp)) (by rw [hp]; exact List.getLast_mem _)
  have := (List.getElem?_eq_some_iff.mp h1).1
  unfold seg
  rw [List.length_take, List.length_drop]
  omega
/-- the ends, when the block is one -/
theorem eOk_ix (nd : l.Nodup) (h : eOk l line) {r0 : Str} {rs : List Str} (hr : run l line = r0 :: rs) : ∃ ps, ∃ hp : plc l line = ix l r0 :: ps, seg l (ix l r0) ((ix l r0 :: ps).getLast (by simp)) = r0 :: rs ∧ (ix l r0 :: ps).getLast (by simp) + 1 = ix l r0 + (r0 :: rs).length ∧ (l.drop (ix l r0)).take (r0 :: rs).length = r0 :: rs := by
  unfold eOk at h
  have hm : r0 ∈ line ∧ r0 ∈ l := run_mem'.mp (by rw [hr]; exact List.mem_cons_self)
  have m0 := mem_plc (ix_mem hm.2).2.2 hm.1
  cases hp : plc l line with
  | nil => rw [hp] at m0; cases m0
  | cons p0 ps =>
    rw [hp] at h
    simp only at h
    obtain ⟨s1, s2⟩ := seg_len hp
    have e0 : l[p0]? = some r0 := by
      have h0 := congrArg (fun m : List Str => m[0]?) h
      rw [hr] at h0
      unfold seg at h0
      simp only [List.getElem?_cons_zero] at h0
      rw [List.getElem?_take, if_pos (by omega), List.getElem?_drop] at h0
      exact h0
    have e1 := ix_at nd e0
    have e2 : (p0 :: ps).getLast (by simp) + 1 - p0 = (r0 :: rs).length := by rw [← s1, h, hr]
    refine ⟨ps, by rw [e1], ?_, ?_, ?_⟩
    · have h' := h
      rw [hr] at h'
      simp only [e1]
      exact h'
    · simp only [e1]; omega
    · rw [hr] at h
      unfold seg at h
      rw [e2] at h
      rw [e1]
      exact h
theorem runOk_of (K : Ln l es line) (h : eOk l line) (hc : ∃ X Y, line = X ++ run l line ++ Y) : runOk l line = true := by
  have nd := (List.nodup_append.mp K.nd).1
  cases hr : run l line with
  | nil => unfold runOk; rw [blk_nil.mpr hr]
  | cons r0 rs =>
    obtain ⟨ps, hp, h1, h2, h3⟩ := eOk_ix nd h hr
    refine (run_iff hr).mpr ⟨h3, ?_⟩
    obtain ⟨X, Y, e⟩ := hc
    rw [hr] at e
    have e2 : line = X ++ r0 :: (rs ++ Y) := by rw [e]; simp
    have hi : ix line r0 = X.length := by
      have nd2 := K.ln
      rw [e2] at nd2 ⊢
      exact ix_mid nd2
    rw [hi, e, List.append_assoc, List.drop_left, List.take_left]
theorem run_cont (h : runOk l line = true) : ∃ X Y, line = X ++ run l line ++ Y := by
  rw [run_blk h]
  rcases dec l line with ⟨q, h2, h3⟩ | ⟨a, m, b, p0, ps, q, h1, h2, h3, ⟨x, r, h4, hx⟩, h5, h6, h7⟩
  · exact ⟨[], line, by unfold blk; rw [h3]; simp⟩
  · exact ⟨a, b, by unfold blk; rw [h6]; exact h1⟩
theorem run_val (K : Ln l es line) (h : eOk l line) : Val (ix (l ++ arr es)) (run l line) := by
  have sub : (run l line).Sublist l := by
    cases hr : run l line with
    | nil => exact List.nil_sublist _
    | cons r0 rs =>
      obtain ⟨ps, hp, h1, h2, h3⟩ := eOk_ix (List.nodup_append.mp K.nd).1 h hr
      rw [← h3]
      exact (List.take_sublist _ _).trans (List.drop_sublist _ _)
  have pw := (ix_pw K.nd).sublist (sub.trans (List.sublist_append_left _ _))
  intro X u v w Y e hh
  rw [e] at pw
  have p2 := (List.pairwise_append.mp pw).2.1
  have p3 := (List.pairwise_cons.mp (List.pairwise_cons.mp p2).2).1 w (by simp)
  omega
/-- block and order together: the machine puts the lane together -/
theorem order_iff (K : Ln l es line) : (runOk l line = true ∧ pk l es line = none) ↔ (eOk l line ∧ Rn l line es = line) := by
  constructor
  · intro ⟨h1, h2⟩
    exact ⟨eOk_of (List.nodup_append.mp K.nd).1 h1, Rn_eq K (Rn_line K (run_cont h1) (pk_val.mp h2) es [] (by simp))⟩
  · intro ⟨h1, h2⟩
    refine ⟨runOk_of K h1 ?_, pk_val.mpr ?_⟩
    · obtain ⟨X, Y, e⟩ := Rn_ext l line [] es
      rw [List.nil_append, h2, Rn_nil] at e
      exact ⟨X, Y, e⟩
    · have := Rn_val K (run_val K h1) es [] (by simp)
      rw [h2] at this
      exact this
theorem posP_snoc (es : List Ev) (line : List Str) (x : Ev) : posP (es ++ [x]) line = posP es line ++ if inC line x = true then [es.length] else [] := by
  unfold posP
  rw [List.zipIdx_append, List.filter_append, List.map_append]
  congr 1
  by_cases h : inC line x = true <;> simp [h]
theorem posP_lt_len (line : List Str) (d : List Ev) : (posP d line).length = (lt line d).length := by
  revert d
  refine snoc_ind rfl ?_
  intro d x ih
  rw [posP_snoc, lt_snoc, List.length_append, List.length_append, ih]
  cases x with
  | none => simp [inC]
  | some c => by_cases h : c ∈ line <;> simp [inC, h]
theorem posP_app (line : List Str) (d : List Ev) : ∀ r : List Ev, ∃ Z, posP (d ++ r) line = posP d line ++ Z := by
  refine snoc_ind ⟨[], by simp⟩ ?_
  intro r x ⟨Z, ih⟩
  refine ⟨Z ++ if inC line x = true then [(d ++ r).length] else [], ?_⟩
  rw [← List.append_assoc, posP_snoc, ih]
  simp
/-- the next stayer's place in the order of the stayers -/
theorem stay_ix {d r : List Ev} {c : Str} (e : es = d ++ some c :: r) (hc : c ∈ line) : (lt line d).length < (posP es line).length ∧ pAt es line (lt line d).length = d.length ∧ cAt es line (lt line d).length = c := by
  obtain ⟨Z, hZ⟩ := posP_app line (d ++ [some c]) r
  have e1 : es = d ++ [some c] ++ r := by rw [e]; simp
  have hi : inC line (some c) = true := by simp [inC, hc]
  rw [← e1, posP_snoc, if_pos hi, List.append_assoc] at hZ
  have hp : pAt es line (lt line d).length = d.length := by
    unfold pAt
    rw [hZ, ← posP_lt_len, List.getD_eq_getElem?_getD, List.getElem?_append_right (Nat.le_refl _)]
    simp
  refine ⟨by rw [hZ, ← posP_lt_len]; simp, hp, ?_⟩
  unfold cAt car
  rw [hp, List.getD_eq_getElem?_getD, e, List.getElem?_append_right (Nat.le_refl _)]
  simp
theorem pAt_inj {i j : Nat} (hi : i < (posP es line).length) (hj : j < (posP es line).length) (h : pAt es line i = pAt es line j) : i = j := by
  rcases Nat.lt_trichotomy i j with q | q | q
  · have := pAt_lt (es := es) hj q; omega
  · exact q
  · have := pAt_lt (es := es) hi q; omega
theorem pAt_split {j : Nat} (hj : j < (posP es line).length) : es = es.take (pAt es line j) ++ some (cAt es line j) :: es.drop (pAt es line j + 1) ∧ (es.take (pAt es line j)).length = pAt es line j ∧ (lt line (es.take (pAt es line j))).length = j ∧ es.take (pAt es line j + 1) = es.take (pAt es line j) ++ [some (cAt es line j)] := by
  obtain ⟨h1, h2, h3, h4⟩ := pAt_car hj
  obtain ⟨h5, h6⟩ := List.getElem?_eq_some_iff.mp h1
  have e : es = es.take (pAt es line j) ++ some (cAt es line j) :: es.drop (pAt es line j + 1) := by
    rw [← h6, ← List.drop_eq_getElem_cons, List.take_append_drop]
  have hl : (es.take (pAt es line j)).length = pAt es line j := by rw [List.length_take]; omega
  obtain ⟨q1, q2, q3⟩ := stay_ix e h2
  refine ⟨e, hl, pAt_inj q1 hj (by rw [q2, hl]), ?_⟩
  rw [List.take_add_one, h1]
  rfl
theorem tot_at {j : Nat} (K : Ln l es line) (hj : j < (posP es line).length) : tot l line (es.take (pAt es line j + 1)) = endN l.length (es.take (pAt es line j + 1)) - ((run l line).length : Nat) - (j + 1 : Nat) := by
  obtain ⟨e, h1, h2, h3⟩ := pAt_split hj
  have hrn : (rn l line).length = (run l line).length := inter_len (List.nodup_append.mp K.nd).1 K.ln
  unfold tot
  rw [hrn]
  have : (lt line (es.take (pAt es line j + 1))).length = j + 1 := by
    rw [h3, lt_snoc, List.length_append, h2]
    have := (pAt_car hj).2.1
    simp [inC, this]
  rw [this]
/-- where a car stands towards a piece of the lane -/
theorem side_ind {m X Y : List Str} {c z z' : Str} (nd : line.Nodup) (e : line = X ++ m ++ Y) (hc : c ∈ line) (hm : c ∉ m) (hz : z ∈ m) (hz' : z' ∈ m) : ix line c < ix line z ↔ ix line c < ix line z' := by
  have key : ∀ z ∈ m, X.length ≤ ix line z ∧ ix line z < (X ++ m).length := fun z hz => by
    constructor
    · have nd2 := nd
      rw [e, List.append_assoc] at nd2
      rw [e, List.append_assoc]
      exact ix_post nd2 (List.mem_append_left _ hz)
    · rw [e]
      exact ix_preI (List.mem_append_right _ hz)
  have k1 := key z hz
  have k2 := key z' hz'
  rw [e] at hc
  rcases List.mem_append.mp hc with hc | hc
  · rcases List.mem_append.mp hc with hc | hc
    · have : ix line c < X.length := by rw [e, List.append_assoc]; exact ix_preI hc
      omega
    · exact absurd hc hm
  · have : (X ++ m).length ≤ ix line c := by
      have nd2 := nd
      rw [e] at nd2
      rw [e]
      exact ix_post nd2 hc
    omega
theorem mid_in {d r : List Ev} {c : Str} (K : Ln l es line) (e : es = d ++ some c :: r) (hc : c ∈ line) (hn : Rn l line d ≠ []) : mid l es line ∈ Rn l line d := by
  rw [Rn_mem]
  unfold mid
  cases hr : run l line with
  | cons q0 qs => exact .inl List.mem_cons_self
  | nil =>
    obtain ⟨q1, q2, q3⟩ := stay_ix e hc
    have hlen := Rn_len (l := l) (line := line) d
    rw [hr] at hlen
    have hpos : 0 < (lt line d).length := by
      have := List.length_pos_iff.mpr hn
      simp at hlen
      omega
    have h0 : 0 < (posP es line).length := by omega
    obtain ⟨h1, h2, h3, h4⟩ := pAt_car h0
    have hlt := pAt_lt q1 hpos
    rw [q2] at hlt
    refine .inr (lt_mem.mpr ⟨?_, h2⟩)
    simp only
    generalize pAt es line 0 = p at *
    generalize cAt es line 0 = q at *
    rw [e, List.getElem?_append_left hlt] at h1
    exact List.mem_filterMap.mpr ⟨_, List.mem_of_getElem? h1, rfl⟩
def lo (l : List Str) (es : List Ev) (line : List Str) : Nat → Int
  | 0 => match run l line with
    | [] => 0
    | r0 :: _ => (ix l r0 : Nat)
  | j + 1 => if (j = 0 ∧ run l line = []) ∨ side l es line j = true then 0 else tot l line (es.take (pAt es line j + 1))
def hi (l : List Str) (es : List Ev) (line : List Str) : Nat → Int
  | 0 => match run l line with
    | [] => 0
    | r0 :: rs => (l.length : Nat) - (ix l r0 : Nat) - ((r0 :: rs).length : Nat)
  | j + 1 => if (j = 0 ∧ run l line = []) ∨ side l es line j = false then 0 else tot l line (es.take (pAt es line j + 1))
def good (l : List Str) (es : List Ev) (line : List Str) (d : List Ev) : Prop := (∀ d1 r1, d = d1 ++ r1 → 0 ≤ tot l line d1) ∧ ∀ i, i < (lt line d).length → swP l es line i = false
theorem good_snoc {d : List Ev} {x : Ev} : good l es line (d ++ [x]) ↔ good l es line d ∧ 0 ≤ tot l line (d ++ [x]) ∧ (inC line x = true → swP l es line (lt line d).length = false) := by
  constructor
  · intro ⟨h1, h2⟩
    refine ⟨⟨fun d1 r1 e => h1 d1 (r1 ++ [x]) (by rw [e]; simp), fun i hi => h2 i ?_⟩, h1 _ [] (by simp), fun hx => h2 _ ?_⟩
    · rw [lt_snoc, List.length_append]; omega
    · rw [lt_snoc, if_pos hx, List.length_append]
      cases x with
      | none => simp [inC] at hx
      | some c => simp
  · intro ⟨⟨h1, h2⟩, h3, h4⟩
    refine ⟨fun d1 r1 e => ?_, fun i hi => ?_⟩
    · rcases List.eq_nil_or_concat r1 with z | ⟨r', y, z⟩
      · subst z; rw [List.append_nil] at e; rw [← e]; exact h3
      · subst z
        rw [List.concat_eq_append, ← List.append_assoc] at e
        exact h1 d1 r' (List.append_inj' e rfl).1
    · rw [lt_snoc, List.length_append] at hi
      by_cases hx : inC line x = true
      · rw [if_pos hx] at hi
        cases x with
        | none => simp [inC] at hx
        | some c =>
          simp at hi
          rcases (by omega : i < (lt line d).length ∨ i = (lt line d).length) with q | q
          · exact h2 i q
          · rw [q]; exact h4 hx
      · rw [if_neg hx] at hi
        exact h2 i (by simpa using hi)
def expS (l : List Str) (es : List Ev) (line : List Str) (d : List Ev) : St := ⟨tot l line d, lo l es line (lt line d).length - (depN d - depN (es.take (snc es line (lt line d).length))), hi l es line (lt line d).length - (depN d - depN (es.take (snc es line (lt line d).length))), Rn l line d⟩
theorem exp_nil (K : Ln l es line) : st0 l line = expS l es line [] := by
  have hrn : (rn l line).length = (run l line).length := inter_len (List.nodup_append.mp K.nd).1 K.ln
  have h0 : lt line ([] : List Ev) = [] := rfl
  unfold expS st0
  rw [h0, Rn_nil]
  simp only [List.length_nil, snc, List.take_zero]
  unfold tot lo hi
  rw [hrn, h0]
  cases hr : run l line with
  | nil => simp [endN, depN]
  | cons r0 rs => first | (simp [endN, depN]; done) | (simp [endN, depN]; omega)
theorem need_lo (K : Ln l es line) {i : Nat} (hi : i < (posP es line).length) (hn : ¬ (i = 0 ∧ run l line = [])) (hs : side l es line i = true) : need l es line i = lo l es line i := by
  cases i with
  | zero =>
    unfold need lo
    cases hr : run l line with
    | nil => exact absurd ⟨rfl, hr⟩ hn
    | cons r0 rs => simp [hs]
  | succ j =>
    simp only [need, lo]
    rw [tot_at K (by omega), hs]
theorem need_hi (K : Ln l es line) {i : Nat} (hi' : i < (posP es line).length) (hn : ¬ (i = 0 ∧ run l line = [])) (hs : side l es line i = false) : need l es line i = hi l es line i := by
  cases i with
  | zero =>
    unfold need hi
    cases hr : run l line with
    | nil => exact absurd ⟨rfl, hr⟩ hn
    | cons r0 rs => simp [hs]
  | succ j =>
    simp only [need, hi]
    rw [tot_at K (by omega), hs]
/-- B: the machine goes on as long as the program's conditions hold -/
theorem mF_good (K : Ln l es line) (H : Rn l line es = line) (d : List Ev) : ∀ r, es = d ++ r → (good l es line d → mF line (st0 l line) d = some (expS l es line d)) ∧ (¬ good l es line d → mF line (st0 l line) d = none) := by
  revert d
  refine snoc_ind ?_ ?_
  · intro r _
    refine ⟨fun _ => by rw [exp_nil K]; rfl, fun h => absurd ⟨fun d1 r1 e => ?_, fun i hi => by simp [lt] at hi⟩ h⟩
    have : d1 = [] := (List.append_eq_nil_iff.mp e.symm).1
    rw [this]
    exact tot_nil l line
  · intro d x ih r e
    have e1 : es = d ++ x :: r := by rw [e]; simp
    obtain ⟨i1, i2⟩ := ih _ e1
    rw [mF_snoc]
    by_cases g : good l es line d
    · rw [i1 g, Option.bind_some]
      cases x with
      | none =>
        have ht : tot l line (d ++ [none]) = tot l line d - 1 := by rw [tot_snoc]; simp [inC, dl]; omega
        have hl : lt line (d ++ [none]) = lt line d := by rw [lt_snoc]; simp [inC]
        have hd : depN (d ++ [none]) = depN d + 1 := by rw [depN_snoc]; rfl
        have hg : good l es line (d ++ [none]) ↔ 0 ≤ tot l line d - 1 := by
          rw [good_snoc, ht]
          exact ⟨fun h => h.2.1, fun h => ⟨g, h, fun z => by simp [inC] at z⟩⟩
        have hx : (⟨(expS l es line d).t - 1, (expS l es line d).a - 1, (expS l es line d).b - 1, (expS l es line d).run⟩ : St) = expS l es line (d ++ [none]) := by
          unfold expS
          rw [hl, hd, ht, Rn_none]
          simp only [St.mk.injEq, true_and, and_true]
          omega
        refine ⟨fun h => mS_none.mpr ⟨hg.mp h, hx.symm⟩, fun h => ?_⟩
        cases hm : mS line (expS l es line d) none with
        | none => rfl
        | some s' => exact absurd (hg.mpr (mS_none.mp hm).1) h
      | some c =>
        by_cases hc : c ∈ line
        · have hic : inC line (some c) = true := by simp [inC, hc]
          have ht : tot l line (d ++ [some c]) = tot l line d := by rw [tot_snoc, if_pos hic]; simp [dl]
          have hl : (lt line (d ++ [some c])).length = (lt line d).length + 1 := by rw [lt_snoc, if_pos hic]; simp
          obtain ⟨q1, q2, q3⟩ := stay_ix e1 hc
          have t0 : 0 ≤ tot l line d := g.1 d [] (by simp)
          have hg : good l es line (d ++ [some c]) ↔ swP l es line (lt line d).length = false := by
            rw [good_snoc, ht]
            exact ⟨fun h => h.2.2 hic, fun h => ⟨g, t0, fun _ => h⟩⟩
          have tk : es.take (pAt es line (lt line d).length) = d := by rw [q2, e1, List.take_left]
          have tk1 : es.take (pAt es line (lt line d).length + 1) = d ++ [some c] := by rw [(pAt_split q1).2.2.2, tk, q3]
          have D0 : depN (d ++ [some c]) - depN (es.take (snc es line ((lt line d).length + 1))) = 0 := by
            show _ - depN (es.take (pAt es line (lt line d).length + 1)) = 0
            rw [tk1]; omega
          have hsw : swP l es line (lt line d).length = decide (depN d - depN (es.take (snc es line (lt line d).length)) < need l es line (lt line d).length) := by unfold swP; rw [tk]
          cases hm : Rn l line d with
          | nil =>
            have hz := Rn_len (l := l) (line := line) d
            rw [hm] at hz
            have z1 : (lt line d).length = 0 := by simp at hz; omega
            have z2 : run l line = [] := List.eq_nil_of_length_eq_zero (by simp at hz; omega)
            have sw0 : swP l es line (lt line d).length = false := by
              rw [hsw, z1]
              have := depN_nonneg d
              simp only [snc, List.take_zero]
              unfold need
              rw [z2]
              simp [depN] at this ⊢
              exact this
            have hrun : (expS l es line d).run = [] := hm
            refine ⟨fun _ => (mS_in0 hc hrun).mpr ?_, fun h => absurd (hg.mpr sw0) h⟩
            unfold expS
            rw [hl, D0, ht, Rn_in hc, hm, z1]
            unfold lo hi rstep
            simp [z2]
          | cons r0 rs =>
            have hn : ¬ ((lt line d).length = 0 ∧ run l line = []) := fun z => by
              have hz := Rn_len (l := l) (line := line) d
              rw [hm, z.1, z.2] at hz
              simp at hz
            have hmid := mid_in K e1 hc (by rw [hm]; simp)
            obtain ⟨X, Y, hXY⟩ := Rn_ext l line d (some c :: r)
            rw [← e1, H] at hXY
            have hfr := Rn_fresh K e1
            have sd := side_ind K.ln hXY hc hfr (z := r0) (z' := mid l es line) (by rw [hm]; exact List.mem_cons_self) hmid
            have hside : side l es line (lt line d).length = decide (ix line c < ix line r0) := by
              unfold side
              rw [q3]
              by_cases w : ix line c < ix line r0
              · have := sd.mp w; simp [w]; exact this
              · have : ¬ ix line c < ix line (mid l es line) := fun z => w (sd.mpr z)
                simp [w]; omega
            have hrun : (expS l es line d).run = r0 :: rs := hm
            have ht2 : tot l line (es.take (pAt es line (lt line d).length + 1)) = tot l line d := by rw [tk1, ht]
            by_cases w : ix line c < ix line r0
            · have hs : side l es line (lt line d).length = true := by rw [hside]; simp [w]
              have hcond : swP l es line (lt line d).length = false ↔ (expS l es line d).a ≤ 0 := by
                rw [hsw, need_lo K q1 hn hs]
                show _ ↔ lo l es line (lt line d).length - (depN d - depN (es.take (snc es line (lt line d).length))) ≤ 0
                rw [decide_eq_false_iff_not]
                omega
              have hx : (⟨(expS l es line d).t, 0, (expS l es line d).t, c :: r0 :: rs⟩ : St) = expS l es line (d ++ [some c]) := by
                unfold expS
                rw [hl, D0, ht, Rn_in hc, hm]
                unfold lo hi rstep
                simp only [hs, w, if_true, or_true, ht2, hn, false_or, reduceCtorEq, if_false, Int.sub_zero]
              refine ⟨fun h => (mS_inL hc hrun w).mpr ⟨hcond.mp (hg.mp h), hx.symm⟩, fun h => ?_⟩
              cases hq : mS line (expS l es line d) (some c) with
              | none => rfl
              | some s' => exact absurd (hg.mpr (hcond.mpr ((mS_inL hc hrun w).mp hq).1)) h
            · have hs : side l es line (lt line d).length = false := by rw [hside]; simp [w]
              have hcond : swP l es line (lt line d).length = false ↔ (expS l es line d).b ≤ 0 := by
                rw [hsw, need_hi K q1 hn hs]
                show _ ↔ hi l es line (lt line d).length - (depN d - depN (es.take (snc es line (lt line d).length))) ≤ 0
                rw [decide_eq_false_iff_not]
                omega
              have hx : (⟨(expS l es line d).t, (expS l es line d).t, 0, r0 :: rs ++ [c]⟩ : St) = expS l es line (d ++ [some c]) := by
                unfold expS
                rw [hl, D0, ht, Rn_in hc, hm]
                unfold lo hi rstep
                simp only [hs, w, if_true, or_true, ht2, hn, false_or, reduceCtorEq, if_false, Int.sub_zero]
              refine ⟨fun h => (mS_inR hc hrun w).mpr ⟨hcond.mp (hg.mp h), hx.symm⟩, fun h => ?_⟩
              cases hq : mS line (expS l es line d) (some c) with
              | none => rfl
              | some s' => exact absurd (hg.mpr (hcond.mpr ((mS_inR hc hrun w).mp hq).1)) h
        · have hic : inC line (some c) = false := by simp [inC, hc]
          have ht : tot l line (d ++ [some c]) = tot l line d + 1 := by rw [tot_snoc]; simp [hic, dl]
          have hl : lt line (d ++ [some c]) = lt line d := by rw [lt_snoc]; simp [hic]
          have hd : depN (d ++ [some c]) = depN d := by rw [depN_snoc]; simp [dep]
          have t0 : 0 ≤ tot l line d := g.1 d [] (by simp)
          have hg : good l es line (d ++ [some c]) := by
            rw [good_snoc, ht]
            exact ⟨g, by omega, fun z => by rw [hic] at z; cases z⟩
          refine ⟨fun h => (mS_out hc).mpr ?_, fun h => absurd hg h⟩
          unfold expS
          rw [hl, hd, ht, Rn_out hc]
    · rw [i2 g]
      exact ⟨fun h => absurd (good_snoc.mp h).1 g, fun _ => rfl⟩
/-- what the law decides of a lane -/
def canM (l : List Str) (es : List Ev) (line : List Str) : Prop := eOk l line ∧ ∃ s, mF line (st0 l line) es = some s ∧ s.run = line ∧ s.t = 0
theorem swAt_iff : swAt l es line = none ↔ ∀ j, j < (posP es line).length → swP l es line j = false := by
  refine ⟨fun h j hj => ?_, sw_none⟩
  unfold swAt at h
  have := List.find?_eq_none.mp h j (List.mem_range.mpr hj)
  simpa using this
theorem can_iff (K : Ln l es line) : canM l es line ↔ ((line.length : Int) = endN l.length es ∧ runOk l line = true ∧ pk l es line = none ∧ shortAt l es line = none ∧ swAt l es line = none) := by
  have hrn : (rn l line).length = (run l line).length := inter_len (List.nodup_append.mp K.nd).1 K.ln
  have tl : Rn l line es = line → (tot l line es = 0 ↔ (line.length : Int) = endN l.length es) := fun H => by
    have := Rn_len (l := l) (line := line) es
    rw [H] at this
    unfold tot
    rw [hrn]
    omega
  have gd : good l es line es ↔ shortAt l es line = none ∧ swAt l es line = none := by
    rw [short_none, swAt_iff, posP_lt_len]
    rfl
  constructor
  · intro ⟨h1, s, h2, h3, h4⟩
    have H : Rn l line es = line := by rw [← mF_run es s h2]; exact h3
    obtain ⟨o1, o2⟩ := (order_iff K).mpr ⟨h1, H⟩
    obtain ⟨m1, m2⟩ := mF_good K H es [] (by simp)
    have g : good l es line es := by
      apply Classical.byContradiction
      intro z
      rw [m2 z] at h2
      cases h2
    have h5 := m1 g
    rw [h2] at h5
    have h6 := Option.some.inj h5
    obtain ⟨g1, g2⟩ := gd.mp g
    refine ⟨(tl H).mp ?_, o1, o2, g1, g2⟩
    rw [h6] at h4
    exact h4
  · intro ⟨h1, h2, h3, h4, h5⟩
    obtain ⟨o1, H⟩ := (order_iff K).mp ⟨h2, h3⟩
    obtain ⟨m1, m2⟩ := mF_good K H es [] (by simp)
    exact ⟨o1, _, m1 (gd.mpr ⟨h4, h5⟩), H, (tl H).mpr h1⟩
end
/-! the lane of a history -/
def lnS (L : List Str) (x : Ev × Bool) : List Str := match x with
  | (some c, true) => c :: L
  | (some c, false) => L ++ [c]
  | (none, true) => L.drop 1
  | (none, false) => L.dropLast
def LN (l : List Str) (h : List (Ev × Bool)) : List Str := h.foldl lnS l
theorem LN_snoc (l : List Str) (h : List (Ev × Bool)) (x : Ev × Bool) : LN l (h ++ [x]) = lnS (LN l h) x := by
  unfold LN
  rw [List.foldl_append]
  rfl
def evs (h : List (Ev × Bool)) : List Ev := h.map Prod.fst
theorem evs_app (h r : List (Ev × Bool)) : evs (h ++ r) = evs h ++ evs r := by simp [evs]
theorem LN_nd {l : List Str} {hs : List (Ev × Bool)} (nd : (l ++ arr (evs hs)).Nodup) (h : List (Ev × Bool)) : ∀ r, hs = h ++ r → (LN l h ++ arr (evs r)).Nodup := by
  revert h
  refine snoc_ind ?_ ?_
  · intro r e
    rw [List.nil_append] at e
    subst e
    exact nd
  · intro h x ih r e
    have i1 := ih (x :: r) (by rw [e]; simp)
    rw [LN_snoc]
    obtain ⟨y, b⟩ := x
    cases y with
    | some c =>
      have p : List.Perm (lnS (LN l h) (some c, b)) (LN l h ++ [c]) := by
        cases b with
        | true => exact (List.perm_append_singleton _ _).symm
        | false => exact List.Perm.refl _
      have e2 : LN l h ++ arr (evs ((some c, b) :: r)) = (LN l h ++ [c]) ++ arr (evs r) := by simp [evs, arr]
      rw [e2] at i1
      exact ((p.append_right _).nodup_iff).mpr i1
    | none =>
      have s : (lnS (LN l h) (none, b)).Sublist (LN l h) := by
        cases b with
        | true => exact List.drop_sublist _ _
        | false => exact List.dropLast_sublist _
      have e2 : arr (evs ((none, b) :: r)) = arr (evs r) := by simp [evs, arr]
      rw [e2] at i1
      exact i1.sublist (s.append (List.Sublist.refl _))
theorem LN_sub {l : List Str} {x : Str} (h : List (Ev × Bool)) (r : List (Ev × Bool)) : x ∈ LN l (h ++ r) → x ∈ LN l h ∨ x ∈ arr (evs r) := by
  revert r
  refine snoc_ind ?_ ?_
  · intro z; rw [List.append_nil] at z; exact .inl z
  · intro r y ih z
    rw [← List.append_assoc, LN_snoc] at z
    rw [evs_app, show arr (evs r ++ evs [y]) = arr (evs r) ++ arr (evs [y]) by simp [arr]]
    obtain ⟨y, b⟩ := y
    have up : x ∈ LN l (h ++ r) → x ∈ LN l h ∨ x ∈ arr (evs r) ++ arr (evs [(y, b)]) := fun z => (ih z).imp id fun z => List.mem_append_left _ z
    cases y with
    | some c =>
      have ec : arr (evs [(some c, b)]) = [c] := rfl
      cases b with
      | true =>
        rcases List.mem_cons.mp z with z | z
        · exact .inr (by rw [ec]; simp [z])
        · exact up z
      | false =>
        rcases List.mem_append.mp z with z | z
        · exact up z
        · exact .inr (by rw [ec]; exact List.mem_append_right _ z)
    | none =>
      cases b with
      | true => exact up (List.mem_of_mem_drop z)
      | false => exact up ((List.dropLast_sublist _).subset z)
/-- a lane parted into leavers, stayers, leavers -/
structure Pt (line L A m B : List Str) : Prop where
  e : L = A ++ m ++ B
  c : ∃ X Y, line = X ++ m ++ Y
  a : ∀ x ∈ A, x ∉ line
  b : ∀ x ∈ B, x ∉ line
/-- how the parts go back over one event -/
inductive Bk (line L A' m' B' : List Str) : Ev → Prop where
  | leave {c : Str} (A B : List Str) (p : Pt line L A m' B) (hc : c ∉ line) (h1 : A.length + B.length + 1 = A'.length + B'.length) (h2 : A.length ≤ A'.length) (h3 : B.length ≤ B'.length) : Bk line L A' m' B' (some c)
  | left {c : Str} (m : List Str) (p : Pt line L [] m B') (hA : A' = []) (hm : m' = c :: m) : Bk line L A' m' B' (some c)
  | right {c : Str} (m : List Str) (p : Pt line L A' m []) (hB : B' = []) (hm : m' = m ++ [c]) : Bk line L A' m' B' (some c)
  | out (A B : List Str) (p : Pt line L A m' B) (h1 : A'.length + B'.length + 1 = A.length + B.length) (h2 : A.length ≤ A'.length + 1) (h3 : B.length ≤ B'.length + 1) : Bk line L A' m' B' none
theorem snoc_cases {α : Type} (l : List α) : l = [] ∨ ∃ r x, l = r ++ [x] := by
  rcases List.eq_nil_or_concat l with z | ⟨r, x, z⟩
  · exact .inl z
  · exact .inr ⟨r, x, by rw [z, List.concat_eq_append]⟩
theorem back1 {line L A' m' B' : List Str} {y : Ev} {b : Bool} (p : Pt line (lnS L (y, b)) A' m' B') (hz : y = none → L ≠ []) (hl : ∀ z, y = none → z ∈ L → z ∉ lnS L (y, b) → z ∉ line) (nd : L.Nodup) : Bk line L A' m' B' y := by
  obtain ⟨e, ⟨X, Y, c⟩, ha, hb⟩ := p
  cases y with
  | some q =>
    cases b with
    | true =>
      have e : q :: L = A' ++ m' ++ B' := e
      cases A' with
      | cons a A2 =>
        obtain ⟨rfl, e2⟩ := List.cons.inj e
        exact .leave A2 B' ⟨e2, ⟨X, Y, c⟩, fun x hx => ha x (List.mem_cons_of_mem _ hx), hb⟩ (ha _ List.mem_cons_self) (by simp; omega) (by simp) (Nat.le_refl _)
      | nil =>
        cases m' with
        | cons m1 m2 =>
          obtain ⟨rfl, e2⟩ := List.cons.inj e
          exact .left m2 ⟨by simpa using e2, ⟨X ++ [q], Y, by rw [c]; simp⟩, (fun x hx => by cases hx), hb⟩ rfl rfl
        | nil =>
          cases B' with
          | nil => simp at e
          | cons b1 B2 =>
            obtain ⟨rfl, e2⟩ := List.cons.inj e
            exact .leave [] B2 ⟨by simpa using e2, ⟨X, Y, c⟩, (fun x hx => by cases hx), fun x hx => hb x (List.mem_cons_of_mem _ hx)⟩ (hb _ List.mem_cons_self) (by simp) (Nat.le_refl _) (by simp)
    | false =>
      have e : L ++ [q] = A' ++ m' ++ B' := e
      rcases snoc_cases B' with rfl | ⟨B2, b1, rfl⟩
      · rcases snoc_cases m' with rfl | ⟨m2, m1, rfl⟩
        · rcases snoc_cases A' with rfl | ⟨A2, a1, rfl⟩
          · simp at e
          · have e2 : L ++ [q] = A2 ++ [a1] := by rw [e]; simp
            obtain ⟨e3, e4⟩ := List.append_inj' e2 rfl
            have e5 : q = a1 := by simpa using e4
            subst e5
            exact .leave A2 [] ⟨by simpa using e3, ⟨X, Y, c⟩, fun x hx => ha x (List.mem_append_left _ hx), (fun x hx => by cases hx)⟩ (ha _ (by simp)) (by simp) (by simp) (Nat.le_refl _)
        · have e2 : L ++ [q] = (A' ++ m2) ++ [m1] := by rw [e]; simp
          obtain ⟨e3, e4⟩ := List.append_inj' e2 rfl
          have e5 : q = m1 := by simpa using e4
          subst e5
          exact .right m2 ⟨by simpa using e3, ⟨X, [q] ++ Y, by rw [c]; simp⟩, ha, (fun x hx => by cases hx)⟩ rfl rfl
      · have e2 : L ++ [q] = (A' ++ m' ++ B2) ++ [b1] := by rw [e]; simp
        obtain ⟨e3, e4⟩ := List.append_inj' e2 rfl
        have e5 : q = b1 := by simpa using e4
        subst e5
        exact .leave A' B2 ⟨e3, ⟨X, Y, c⟩, ha, fun x hx => hb x (List.mem_append_left _ hx)⟩ (hb _ (by simp)) (by simp; omega) (Nat.le_refl _) (by simp)
  | none =>
    have hL := hz rfl
    cases b with
    | true =>
      cases L with
      | nil => exact absurd rfl hL
      | cons z L2 =>
        have e : L2 = A' ++ m' ++ B' := e
        have hzn : z ∉ line := hl z rfl List.mem_cons_self fun w => (List.nodup_cons.mp nd).1 w
        exact .out (z :: A') B' ⟨by rw [e]; simp, ⟨X, Y, c⟩, fun x hx => by
          rcases List.mem_cons.mp hx with rfl | hx
          · exact hzn
          · exact ha x hx, hb⟩ (by simp; omega) (by simp) (by omega)
    | false =>
      rcases snoc_cases L with rfl | ⟨L2, z, rfl⟩
      · exact absurd rfl hL
      · have hd : lnS (L2 ++ [z]) (none, false) = L2 := by simp [lnS]
        rw [hd] at e
        have hzn : z ∉ line := hl z rfl (by simp) fun w => by
          rw [hd] at w
          exact (List.nodup_append.mp nd).2.2 z w z (by simp) rfl
        exact .out A' (B' ++ [z]) ⟨by rw [e]; simp, ⟨X, Y, c⟩, ha, fun x hx => by
          rcases List.mem_append.mp hx with hx | hx
          · exact hb x hx
          · simp at hx; rw [hx]; exact hzn⟩ (by simp; omega) (by omega) (by simp)
theorem pt_run {l line A m B : List Str} (p : Pt line l A m B) (nd : line.Nodup) : run l line = m := by
  obtain ⟨e, ⟨X, Y, c⟩, ha, hb⟩ := p
  have no : ∀ x, x ∈ line → x ∉ m → x ∉ l := fun x h1 h2 h3 => by
    rw [e] at h3
    rcases List.mem_append.mp h3 with h3 | h3
    · rcases List.mem_append.mp h3 with h3 | h3
      · exact ha x h3 h1
      · exact h2 h3
    · exact hb x h3 h1
  have nd2 := nd
  rw [c] at nd2
  have n1 := List.nodup_append.mp nd2
  have n2 := List.nodup_append.mp n1.1
  have hX : ∀ x ∈ X, x ∉ l := fun x hx => no x (by rw [c]; simp [hx]) fun z => n2.2.2 x hx x z rfl
  have hY : ∀ x ∈ Y, x ∉ l := fun x hx => no x (by rw [c]; simp [hx]) fun z => n1.2.2 x (List.mem_append_right _ z) x hx rfl
  unfold run
  rw [c, List.filter_append, List.filter_append, filt_no hX, filt_no hY, List.nil_append, List.append_nil]
  exact List.filter_eq_self.mpr fun x hx => by rw [e]; simp [hx]
theorem pt_eOk {l line A m B : List Str} (p : Pt line l A m B) (nd : line.Nodup) (ndl : l.Nodup) : eOk l line := by
  have hr := pt_run p nd
  cases hm : m with
  | nil =>
    rw [hm] at hr
    unfold eOk
    rw [run_nil_plc hr]
    trivial
  | cons r0 rs =>
    rw [hm] at hr
    refine eOk_of ndl ((run_iff hr).mpr ⟨?_, ?_⟩)
    · have e := p.e
      rw [hm] at e
      have e2 : l = A ++ r0 :: (rs ++ B) := by rw [e]; simp
      have hi : ix l r0 = A.length := by rw [e2] at ndl ⊢; exact ix_mid ndl
      rw [hi, e, List.append_assoc, List.drop_left, List.take_left]
    · obtain ⟨X, Y, c⟩ := p.c
      rw [hm] at c
      have e2 : line = X ++ r0 :: (rs ++ Y) := by rw [c]; simp
      have hi : ix line r0 = X.length := by rw [e2] at nd ⊢; exact ix_mid nd
      rw [hi, c, List.append_assoc, List.drop_left, List.take_left]
/-- the lane of a history can arise -/
theorem hist_can {l : List Str} {hs : List (Ev × Bool)} (nd : (l ++ arr (evs hs)).Nodup) (room : ∀ h r b, hs = h ++ (none, b) :: r → LN l h ≠ []) : canM l (evs hs) (LN l hs) := by
  have ndl := (List.nodup_append.mp nd).1
  generalize hline : LN l hs = line at *
  have ndL : ∀ h r, hs = h ++ r → (LN l h).Nodup := fun h r e => (List.nodup_append.mp (LN_nd nd h r e)).1
  have ndline : line.Nodup := by rw [← hline]; exact ndL hs [] (by simp)
  have back : ∀ h x r A' m' B', hs = h ++ x :: r → Pt line (LN l (h ++ [x])) A' m' B' → Bk line (LN l h) A' m' B' x.1 := fun h x r A' m' B' e p => by
    rw [LN_snoc] at p
    obtain ⟨y, b⟩ := x
    refine back1 p (fun hy => ?_) (fun z hy hz hn hl => ?_) (ndL h _ e)
    · have hy : y = none := hy
      subst hy
      exact room h r b e
    · have hy : y = none := hy
      subst hy
      rw [← hline, e, show h ++ (none, b) :: r = (h ++ [(none, b)]) ++ r by simp] at hl
      rcases LN_sub _ _ hl with q | q
      · rw [LN_snoc] at q; exact hn q
      · have n1 := LN_nd nd h _ e
        have e2 : arr (evs ((none, b) :: r)) = arr (evs r) := by simp [evs, arr]
        rw [e2] at n1
        exact (List.nodup_append.mp n1).2.2 z hz z q rfl
  have parts : ∀ r h, hs = h ++ r → ∃ A m B, Pt line (LN l h) A m B := by
    intro r
    induction r with
    | nil => intro h e; rw [List.append_nil] at e; exact ⟨[], line, [], by rw [← e, hline]; simp, ⟨[], [], by simp⟩, (fun x hx => by cases hx), (fun x hx => by cases hx)⟩
    | cons x r ih =>
      intro h e
      obtain ⟨A, m, B, p⟩ := ih (h ++ [x]) (by rw [e]; simp)
      have := back h x r A m B e p
      cases hx : x.1 with
      | none => rw [hx] at this; cases this with | out A B p => exact ⟨_, _, _, p⟩
      | some c =>
        rw [hx] at this
        cases this with
        | leave A B p => exact ⟨_, _, _, p⟩
        | left m p => exact ⟨_, _, _, p⟩
        | right m p => exact ⟨_, _, _, p⟩
  have fwd : ∀ h : List (Ev × Bool), ∀ r A m B, hs = h ++ r → Pt line (LN l h) A m B → ∃ s, mF line (st0 l line) (evs h) = some s ∧ s.run = m ∧ s.t = (A.length : Int) + B.length ∧ (m ≠ [] → s.a ≤ A.length ∧ s.b ≤ B.length) := by
    intro h
    revert h
    refine snoc_ind ?_ ?_
    · intro r A m B _ p
      have p : Pt line l A m B := p
      have hr := pt_run p ndline
      refine ⟨st0 l line, rfl, ?_, ?_, ?_⟩
      · unfold st0
        split
        · rename_i e; rw [← hr, e]
        · rename_i e; rw [← hr, e]
      · have hl := congrArg List.length p.e
        simp only [List.length_append] at hl
        unfold st0
        split
        · rename_i e
          rw [hr] at e
          rw [e] at hl
          simp at hl ⊢
          omega
        · rename_i r0 rs e
          rw [hr] at e
          rw [e] at hl
          simp at hl ⊢
          omega
      · intro hm
        cases h : m with
        | nil => exact absurd h hm
        | cons r0 rs =>
          rw [h] at hr
          have e := p.e
          rw [h] at e
          have e2 : l = A ++ r0 :: (rs ++ B) := by rw [e]; simp
          have hi : ix l r0 = A.length := by rw [e2] at ndl ⊢; exact ix_mid ndl
          have hl := congrArg List.length e
          simp only [List.length_append, List.length_cons] at hl
          unfold st0
          rw [hr]
          simp only [hi, List.length_cons]
          omega
    · intro h x ih r A' m' B' e p
      have e1 : hs = h ++ x :: r := by rw [e]; simp
      have bk := back h x r A' m' B' e1 p
      have hev : evs (h ++ [x]) = evs h ++ [x.1] := by simp [evs]
      rw [hev, mF_snoc]
      cases hx : x.1 with
      | none =>
        rw [hx] at bk
        cases bk with
        | out A B q h1 h2 h3 =>
          obtain ⟨s, s1, s2, s3, s4⟩ := ih _ A m' B e1 q
          rw [s1, Option.bind_some]
          refine ⟨_, mS_none.mpr ⟨by omega, rfl⟩, s2, by simp only; omega, fun hm => ?_⟩
          have := s4 hm
          simp only
          omega
      | some c =>
        rw [hx] at bk
        cases bk with
        | leave A B q hc h1 h2 h3 =>
          obtain ⟨s, s1, s2, s3, s4⟩ := ih _ A m' B e1 q
          rw [s1, Option.bind_some]
          refine ⟨_, (mS_out hc).mpr rfl, s2, by simp only; omega, fun hm => ?_⟩
          have := s4 hm
          simp only
          omega
        | left m q hA hm =>
          obtain ⟨s, s1, s2, s3, s4⟩ := ih _ [] m B' e1 q
          rw [s1, Option.bind_some]
          obtain ⟨X, Y, cl⟩ := p.c
          rw [hm] at cl
          have hc : c ∈ line := by rw [cl]; simp
          subst hA
          cases m with
          | nil =>
            refine ⟨_, (mS_in0 hc s2).mpr rfl, hm.symm, s3, fun _ => ?_⟩
            simp
          | cons r0 rs =>
            have c1 : line = X ++ c :: (r0 :: rs ++ Y) := by rw [cl]; simp
            have c2 : line = (X ++ [c]) ++ r0 :: (rs ++ Y) := by rw [cl]; simp
            have j1 : ix line c = X.length := by have := ndline; rw [c1] at this ⊢; exact ix_mid this
            have j2 : ix line r0 = X.length + 1 := by have := ndline; rw [c2] at this ⊢; rw [ix_mid this]; simp
            have h4 := s4 (by simp)
            refine ⟨_, (mS_inL hc s2 (by omega)).mpr ⟨by simpa using h4.1, rfl⟩, hm.symm, s3, fun _ => ?_⟩
            simp only [List.length_nil] at s3 ⊢
            omega
        | right m q hB hm =>
          obtain ⟨s, s1, s2, s3, s4⟩ := ih _ A' m [] e1 q
          rw [s1, Option.bind_some]
          obtain ⟨X, Y, cl⟩ := p.c
          rw [hm] at cl
          have hc : c ∈ line := by rw [cl]; simp
          subst hB
          cases m with
          | nil =>
            refine ⟨_, (mS_in0 hc s2).mpr rfl, hm.symm, s3, fun _ => ?_⟩
            simp
          | cons r0 rs =>
            have c1 : line = (X ++ (r0 :: rs)) ++ c :: Y := by rw [cl]; simp
            have c2 : line = X ++ r0 :: (rs ++ [c] ++ Y) := by rw [cl]; simp
            have j1 : ix line c = (X ++ (r0 :: rs)).length := by have := ndline; rw [c1] at this ⊢; exact ix_mid this
            have j2 : ix line r0 = X.length := by have := ndline; rw [c2] at this ⊢; exact ix_mid this
            have h4 := s4 (by simp)
            refine ⟨_, (mS_inR hc s2 (by rw [j1, j2]; simp)).mpr ⟨by simpa using h4.2, rfl⟩, hm.symm, s3, fun _ => ?_⟩
            simp only [List.length_nil] at s3 ⊢
            omega
  obtain ⟨A, m, B, p⟩ := parts hs [] (by simp)
  refine ⟨pt_eOk p ndline ndl, ?_⟩
  obtain ⟨s, s1, s2, s3, s4⟩ := fwd hs [] [] line [] (by simp) ⟨by rw [hline]; simp, ⟨[], [], by simp⟩, (fun x hx => by cases hx), (fun x hx => by cases hx)⟩
  exact ⟨s, s1, s2, by simpa using s3⟩
/-! the possible numbers of leavers on the left -/
def mx (a : Int) : Int := if a > 0 then a else 0
theorem mx_ge (a : Int) : a ≤ mx a ∧ 0 ≤ mx a ∧ (mx a = a ∨ mx a = 0) ∧ (0 ≤ a → mx a = a) ∧ (a ≤ 0 → mx a = 0) := by
  unfold mx
  split <;> refine ⟨?_, ?_, ?_, ?_, ?_⟩ <;> omega
structure InvLf (s : St) (lf : List Int) : Prop where
  rng : ∀ x ∈ lf, 0 ≤ x ∧ x ≤ s.t
  len : lf.length ≤ 60
  ne : lf ≠ []
  lb : s.run ≠ [] → mx s.a ∈ lf ∧ ∀ x ∈ lf, mx s.a ≤ x
  ub : s.run ≠ [] → s.t - mx s.b ∈ lf ∧ ∀ x ∈ lf, x ≤ s.t - mx s.b
theorem mem_lfIn {lf : List Int} {x : Int} : x ∈ lfIn lf ↔ x ∈ lf ∨ ∃ y ∈ lf, y + 1 = x := by
  unfold lfIn
  rw [mem_sortI, List.mem_append, List.mem_map]
theorem mem_lfOut {lf : List Int} {t x : Int} : x ∈ lfOut lf t ↔ (x ∈ lf ∧ x ≤ t) ∨ ∃ y, (y ∈ lf ∧ 0 < y) ∧ y - 1 = x := by
  unfold lfOut
  rw [mem_sortI, List.mem_append, List.mem_map]
  simp only [List.mem_filter, decide_eq_true_eq]
theorem InvLf.inn {s : St} {lf : List Int} (h : InvLf s lf) (h40 : s.t + 1 ≤ 40) : InvLf ⟨s.t + 1, s.a, s.b, s.run⟩ (lfIn lf) := by
  refine ⟨fun x hx => ?_, lf_len (N := s.t + 1) (fun x hx => ?_) (by omega), ?_, fun hr => ?_, fun hr => ?_⟩
  · rcases mem_lfIn.mp hx with hx | ⟨y, hy, rfl⟩
    · have := h.rng x hx; simp only; omega
    · have := h.rng y hy; simp only; omega
  · rcases List.mem_append.mp hx with hx | hx
    · have := h.rng x hx; omega
    · obtain ⟨y, hy, rfl⟩ := List.mem_map.mp hx
      have := h.rng y hy; omega
  · obtain ⟨y, hy⟩ := List.exists_mem_of_ne_nil _ h.ne
    exact List.ne_nil_of_mem (mem_lfIn.mpr (.inl hy))
  · obtain ⟨h1, h2⟩ := h.lb hr
    refine ⟨mem_lfIn.mpr (.inl h1), fun x hx => ?_⟩
    rcases mem_lfIn.mp hx with hx | ⟨y, hy, rfl⟩
    · exact h2 x hx
    · have := h2 y hy; simp only; omega
  · obtain ⟨h1, h2⟩ := h.ub hr
    refine ⟨mem_lfIn.mpr (.inr ⟨_, h1, by simp only; omega⟩), fun x hx => ?_⟩
    rcases mem_lfIn.mp hx with hx | ⟨y, hy, rfl⟩
    · have := h2 x hx; simp only; omega
    · have := h2 y hy; simp only; omega
theorem InvLf.out {s : St} {lf : List Int} (h : InvLf s lf) (h0 : 0 ≤ s.t - 1) (h40 : s.t ≤ 40) : InvLf ⟨s.t - 1, s.a - 1, s.b - 1, s.run⟩ (lfOut lf (s.t - 1)) := by
  have rg : ∀ x ∈ lfOut lf (s.t - 1), 0 ≤ x ∧ x ≤ s.t - 1 := fun x hx => by
    rcases mem_lfOut.mp hx with ⟨hx, h1⟩ | ⟨y, ⟨hy, h1⟩, rfl⟩
    · have := h.rng x hx; omega
    · have := h.rng y hy; omega
  have m1 := mx_ge s.a
  have m2 := mx_ge (s.a - 1)
  have m3 := mx_ge s.b
  have m4 := mx_ge (s.b - 1)
  refine ⟨rg, ?_, ?_, fun hr => ?_, fun hr => ?_⟩
  · unfold lfOut at rg ⊢
    exact lf_len (N := s.t - 1) (fun x hx => rg x (mem_sortI.mpr hx)) (by omega)
  · obtain ⟨y, hy⟩ := List.exists_mem_of_ne_nil _ h.ne
    have := h.rng y hy
    by_cases q : y ≤ s.t - 1
    · exact List.ne_nil_of_mem (mem_lfOut.mpr (.inl ⟨hy, q⟩))
    · exact List.ne_nil_of_mem (mem_lfOut.mpr (.inr ⟨y, ⟨hy, by omega⟩, rfl⟩))
  · obtain ⟨h1, h2⟩ := h.lb hr
    have hr1 := h.rng _ h1
    refine ⟨?_, fun x hx => ?_⟩
    · by_cases q : 0 < s.a
      · exact mem_lfOut.mpr (.inr ⟨_, ⟨h1, by omega⟩, by simp only; omega⟩)
      · refine mem_lfOut.mpr (.inl ⟨?_, by simp only; omega⟩)
        rw [show mx (s.a - 1) = mx s.a by omega]
        exact h1
    · rcases mem_lfOut.mp hx with ⟨hx, q⟩ | ⟨y, ⟨hy, q⟩, rfl⟩
      · have := h2 x hx; simp only; omega
      · have := h2 y hy; simp only; omega
  · obtain ⟨h1, h2⟩ := h.ub hr
    have hr1 := h.rng _ h1
    refine ⟨?_, fun x hx => ?_⟩
    · by_cases q : 0 < s.b
      · refine mem_lfOut.mpr (.inl ⟨?_, by simp only; omega⟩)
        simp only
        rw [show s.t - 1 - mx (s.b - 1) = s.t - mx s.b by omega]
        exact h1
      · exact mem_lfOut.mpr (.inr ⟨_, ⟨h1, by omega⟩, by simp only; omega⟩)
    · rcases mem_lfOut.mp hx with ⟨hx, q⟩ | ⟨y, ⟨hy, q⟩, rfl⟩
      · have := h2 x hx; simp only; omega
      · have := h2 y hy; simp only; omega
theorem InvLf.all {s : St} (hr : s.run = []) (h0 : 0 ≤ s.t) (h40 : s.t ≤ 40) : InvLf s ((List.range (s.t + 1).toNat).map fun i : Nat => (i : Int)) := by
  refine ⟨fun x hx => ?_, by simp; omega, ?_, fun h => absurd hr h, fun h => absurd hr h⟩
  · obtain ⟨i, hi, rfl⟩ := List.mem_map.mp hx
    have := List.mem_range.mp hi
    omega
  · refine List.ne_nil_of_mem (a := 0) (List.mem_map.mpr ⟨0, List.mem_range.mpr (by omega), rfl⟩)
theorem mem_fk {lf : List Int} {k x : Int} : x ∈ sortI (dist (lf.filter fun x => decide (x = k))) ↔ x ∈ lf ∧ x = k := by
  rw [mem_sortI, List.mem_filter]; simp
theorem fk_len {lf : List Int} {k : Int} (h0 : 0 ≤ k) (h : k ≤ 40) : (sortI (dist (lf.filter fun x => decide (x = k)))).length ≤ 60 := lf_len (N := 40) (fun x hx => by
  have := (List.mem_filter.mp hx).2
  simp at this
  omega) (by omega)
theorem InvLf.left {s : St} {lf : List Int} {m : List Str} (h : InvLf s lf) (hr : s.run ≠ []) (h40 : s.t ≤ 40) : (s.a ≤ 0 → InvLf ⟨s.t, 0, s.t, m⟩ (sortI (dist (lf.filter fun x => decide (x = 0))))) ∧ (¬ s.a ≤ 0 → sortI (dist (lf.filter fun x => decide (x = 0))) = []) := by
  obtain ⟨h1, h2⟩ := h.lb hr
  have m1 := mx_ge s.a
  have hr1 := h.rng _ h1
  have m2 := mx_ge s.t
  have m3 := mx_ge 0
  refine ⟨fun ha => ?_, fun ha => ?_⟩
  · have h0 : (0 : Int) ∈ lf := by rw [show (0 : Int) = mx s.a by omega]; exact h1
    have mm : (0 : Int) ∈ sortI (dist (lf.filter fun x => decide (x = 0))) := mem_fk.mpr ⟨h0, rfl⟩
    refine ⟨fun x hx => ?_, fk_len (by omega) (by omega), List.ne_nil_of_mem mm, fun _ => ⟨?_, fun x hx => ?_⟩, fun _ => ⟨?_, fun x hx => ?_⟩⟩
    · have := (mem_fk.mp hx).2; simp only; omega
    · simp only; rw [show mx 0 = 0 by omega]; exact mm
    · have := (mem_fk.mp hx).2; simp only; omega
    · simp only; rw [show s.t - mx s.t = 0 by omega]; exact mm
    · have := (mem_fk.mp hx).2; simp only; omega
  · apply Classical.byContradiction
    intro z
    obtain ⟨y, hy⟩ := List.exists_mem_of_ne_nil _ z
    obtain ⟨y1, y2⟩ := mem_fk.mp hy
    have := h2 y y1
    omega
theorem InvLf.right {s : St} {lf : List Int} {m : List Str} (h : InvLf s lf) (hr : s.run ≠ []) (h40 : s.t ≤ 40) : (s.b ≤ 0 → InvLf ⟨s.t, s.t, 0, m⟩ (sortI (dist (lf.filter fun x => decide (x = s.t))))) ∧ (¬ s.b ≤ 0 → sortI (dist (lf.filter fun x => decide (x = s.t))) = []) := by
  obtain ⟨h1, h2⟩ := h.ub hr
  have m1 := mx_ge s.b
  have hr1 := h.rng _ h1
  have m2 := mx_ge s.t
  have m3 := mx_ge 0
  refine ⟨fun ha => ?_, fun ha => ?_⟩
  · have h0 : s.t ∈ lf := by
      have := h1
      rw [show s.t - mx s.b = s.t by omega] at this; exact this
    have mm : s.t ∈ sortI (dist (lf.filter fun x => decide (x = s.t))) := mem_fk.mpr ⟨h0, rfl⟩
    refine ⟨fun x hx => ?_, fk_len (by omega) (by omega), List.ne_nil_of_mem mm, fun _ => ⟨?_, fun x hx => ?_⟩, fun _ => ⟨?_, fun x hx => ?_⟩⟩
    · have := (mem_fk.mp hx).2; simp only; omega
    · simp only; rw [show mx s.t = s.t by omega]; exact mm
    · have := (mem_fk.mp hx).2; simp only; omega
    · simp only; rw [show s.t - mx 0 = s.t by omega]; exact mm
    · have := (mem_fk.mp hx).2; simp only; omega
  · apply Classical.byContradiction
    intro z
    obtain ⟨y, hy⟩ := List.exists_mem_of_ne_nil _ z
    obtain ⟨y1, y2⟩ := mem_fk.mp hy
    have := h2 y y1
    omega
theorem InvLf.two {t : Int} {m : List Str} (h0 : 0 ≤ t) (h40 : t ≤ 40) : InvLf ⟨t, 0, 0, m⟩ (sortI (dist [0, t])) := by
  have mm : ∀ x, x ∈ sortI (dist [0, t]) ↔ x = 0 ∨ x = t := fun x => by rw [mem_sortI]; simp
  have m3 := mx_ge 0
  refine ⟨fun x hx => ?_, lf_len (N := t) (fun x hx => ?_) (by omega), List.ne_nil_of_mem ((mm 0).mpr (.inl rfl)), fun _ => ⟨?_, fun x hx => ?_⟩, fun _ => ⟨?_, fun x hx => ?_⟩⟩
  · rcases (mm x).mp hx with rfl | rfl <;> simp only <;> omega
  · simp at hx; omega
  · exact (mm _).mpr (.inl (by simp only; omega))
  · rcases (mm x).mp hx with rfl | rfl <;> simp only <;> omega
  · exact (mm _).mpr (.inr (by simp only; omega))
  · rcases (mm x).mp hx with rfl | rfl <;> simp only <;> omega
theorem InvLf.start {s : St} {k : Int} (h0 : 0 ≤ k) (hk : k ≤ s.t) (ha : s.run ≠ [] → s.a = k ∧ s.b = s.t - k) : InvLf s [k] := by
  refine ⟨fun x hx => ?_, by simp, by simp, fun hr => ?_, fun hr => ?_⟩
  · simp at hx; omega
  · obtain ⟨h1, h2⟩ := ha hr
    have m1 := mx_ge s.a
    refine ⟨by simp; omega, fun x hx => ?_⟩
    simp at hx; omega
  · obtain ⟨h1, h2⟩ := ha hr
    have m1 := mx_ge s.b
    refine ⟨by simp; omega, fun x hx => ?_⟩
    simp at hx; omega
theorem mF_none {line : List Str} {s0 : St} {d : List Ev} (h : mF line s0 d = none) : ∀ r, mF line s0 (d ++ r) = none := by
  refine snoc_ind (by rw [List.append_nil]; exact h) ?_
  intro r x ih
  rw [← List.append_assoc, mF_snoc, ih]
  rfl
theorem mF_t0 {l line : List Str} (K : (run l line).length ≤ l.length) (d : List Ev) : ∀ s, mF line (st0 l line) d = some s → 0 ≤ s.t := by
  revert d
  refine snoc_ind ?_ ?_
  · intro s h
    have : st0 l line = s := Option.some.inj h
    rw [← this]
    unfold st0
    split
    · simp
    · rename_i e
      rw [e] at K
      simp only
      omega
  · intro d x ih s h
    rw [mF_snoc, Option.bind_eq_some_iff] at h
    obtain ⟨s1, h1, h2⟩ := h
    have i1 := ih s1 h1
    cases x with
    | none => rw [(mS_none.mp h2).2]; exact (mS_none.mp h2).1
    | some c =>
      by_cases hc : c ∈ line
      · cases e : s1.run with
        | nil => rw [(mS_in0 hc e).mp h2]; exact i1
        | cons r0 rs =>
          by_cases q : ix line c < ix line r0
          · rw [((mS_inL hc e q).mp h2).2]; exact i1
          · rw [((mS_inR hc e q).mp h2).2]; exact i1
      · rw [(mS_out hc).mp h2]; simp only; omega
end Ol
set_option Elab.async false
set_option linter.all false
set_option maxRecDepth 100000
set_option maxHeartbeats 4000000
namespace Ol
open PySem PySem.Spec PyProof.Rows L2
/-! complete(): choices of positions -/
def cnt (P : List Nat) (t : Nat) : Nat := (P.filter fun p => decide (p < t)).length
def Asc (P : List Nat) : Prop := P.Pairwise (· < ·)
theorem cnt_split (P : List Nat) (t : Nat) : cnt P t + (P.filter fun p => !decide (p < t)).length = P.length := by
  unfold cnt
  induction P with
  | nil => rfl
  | cons a r ih =>
    by_cases h : a < t
    · simp only [List.filter_cons, h, decide_true, if_true, Bool.not_true, Bool.false_eq_true, if_false, List.length_cons]; omega
    · simp only [List.filter_cons, h, decide_false, if_false, Bool.not_false, if_true, Bool.false_eq_true, List.length_cons]; omega
/-- room for a block of b cars and the arrivals P -/
def Rm (room : Nat → Int) (L : Nat) (b : Int) (P : List Nat) : Prop := ∀ t, t ≤ L → b + (cnt P t : Nat) ≤ room t
theorem cnt_at {P : List Nat} (h : Asc P) {i : Nat} {p : Nat} (hp : P[i]? = some p) : cnt P (p + 1) = i + 1 := by
  obtain ⟨hi, e⟩ := List.getElem?_eq_some_iff.mp hp
  have e1 : P = P.take (i + 1) ++ P.drop (i + 1) := (List.take_append_drop _ _).symm
  unfold cnt
  rw [e1, List.filter_append, List.length_append]
  have pw := List.pairwise_iff_getElem.mp h
  have f1 : (P.take (i + 1)).filter (fun q => decide (q < p + 1)) = P.take (i + 1) := List.filter_eq_self.mpr fun x hx => by
    obtain ⟨j, hj⟩ := List.mem_iff_getElem?.mp hx
    rw [List.getElem?_take] at hj
    split at hj
    · obtain ⟨h2, e2⟩ := List.getElem?_eq_some_iff.mp hj
      rcases (by omega : j < i ∨ j = i) with q | q
      · have := pw j i h2 hi q; rw [e2, e] at this; simp; omega
      · subst q; rw [e] at e2; simp; omega
    · cases hj
  have f2 : (P.drop (i + 1)).filter (fun q => decide (q < p + 1)) = [] := List.filter_eq_nil_iff.mpr fun x hx => by
    obtain ⟨j, hj⟩ := List.mem_iff_getElem?.mp hx
    rw [List.getElem?_drop] at hj
    obtain ⟨h2, e2⟩ := List.getElem?_eq_some_iff.mp hj
    have := pw i (i + 1 + j) hi h2 (by omega)
    rw [e2, e] at this
    simp; omega
  rw [f1, f2, List.length_take]
  simp; omega
theorem cnt_mono (P : List Nat) {t u : Nat} (h : t ≤ u) : cnt P t ≤ cnt P u := by
  unfold cnt
  induction P with
  | nil => exact Nat.le_refl _
  | cons a r ih =>
    by_cases h1 : a < t
    · have h2 : a < u := by omega
      simp only [List.filter_cons, h1, h2, decide_true, if_true, List.length_cons]; omega
    · by_cases h2 : a < u
      · simp only [List.filter_cons, h1, h2, decide_true, decide_false, if_true, Bool.false_eq_true, if_false, List.length_cons]; omega
      · simp only [List.filter_cons, h1, h2, decide_false, Bool.false_eq_true, if_false]; exact ih
theorem cnt_app (A B : List Nat) (t : Nat) : cnt (A ++ B) t = cnt A t + cnt B t := by
  unfold cnt
  rw [List.filter_append, List.length_append]
theorem cnt_le (P : List Nat) (t : Nat) : cnt P t ≤ P.length := List.length_filter_le _ _
theorem cnt_self {P : List Nat} (h : Asc P) {i : Nat} {p : Nat} (hp : P[i]? = some p) : cnt P p ≤ i := by
  obtain ⟨hi, e⟩ := List.getElem?_eq_some_iff.mp hp
  have pw := List.pairwise_iff_getElem.mp h
  have e1 : P = P.take i ++ P.drop i := (List.take_append_drop _ _).symm
  rw [e1, cnt_app]
  have z : cnt (P.drop i) p = 0 := by
    unfold cnt
    rw [List.filter_eq_nil_iff.mpr fun x hx => ?_]
    · rfl
    · obtain ⟨j, hj⟩ := List.mem_iff_getElem?.mp hx
      rw [List.getElem?_drop] at hj
      obtain ⟨h2, e2⟩ := List.getElem?_eq_some_iff.mp hj
      rcases (by omega : j = 0 ∨ 0 < j) with q | q
      · subst q
        have : P[i + 0]? = some x := hj
        rw [Nat.add_zero, hp] at this
        have := Option.some.inj this
        simp; omega
      · have := pw i (i + j) hi h2 (by omega)
        rw [e2, e] at this
        simp; omega
  have := cnt_le (P.take i) p
  rw [List.length_take] at this
  omega
/-- the program's test of a choice in order -/
theorem rm_iff {room : Nat → Int} {L : Nat} {b : Int} {P : List Nat} (h : Asc P) (hL : ∀ p ∈ P, p < L) (mono : ∀ i j, i ≤ j → j ≤ L → room i ≤ room j) : Rm room L b P ↔ b ≤ room 0 ∧ ∀ i p, P[i]? = some p → b + (i : Nat) + 1 ≤ room (p + 1) := by
  constructor
  · intro hr
    refine ⟨?_, fun i p hp => ?_⟩
    · have := hr 0 (Nat.zero_le _)
      have e : cnt P 0 = 0 := by unfold cnt; rw [List.filter_eq_nil_iff.mpr (by simp)]; rfl
      rw [e] at this
      simpa using this
    · have := hr (p + 1) (hL p (List.mem_of_getElem? hp))
      rw [cnt_at h hp] at this
      omega
  · intro ⟨h0, h1⟩ t ht
    by_cases hc : cnt P t = 0
    · rw [hc]
      have := mono 0 t (Nat.zero_le _) ht
      simp; omega
    · have hlt : cnt P t - 1 < P.length := by have := cnt_le P t; omega
      obtain ⟨p, hp⟩ : ∃ p, P[cnt P t - 1]? = some p := ⟨_, List.getElem?_eq_getElem hlt⟩
      have h2 := h1 _ _ hp
      have h3 : p < t := by
        apply Classical.byContradiction
        intro z
        have a1 := cnt_self h hp
        have a2 := cnt_mono P (show t ≤ p by omega)
        omega
      have := mono _ t (show p + 1 ≤ t by omega) ht
      omega
/-- the latest ones leave the most room -/
theorem cnt_latest {opt Q : List Nat} {k : Nat} (ho : Asc opt) (hQ : Asc Q) (sub : ∀ x ∈ Q, x ∈ opt) (hk : Q.length = k) (t : Nat) : cnt (opt.drop (opt.length - k)) t ≤ cnt Q t := by
  have nd : ∀ {P : List Nat}, Asc P → P.Nodup := fun h => h.imp fun h => Nat.ne_of_lt h
  have le : ∀ {a b : List Nat}, a.Nodup → (∀ x ∈ a, x ∈ b) → a.length ≤ b.length := by
    intro a
    induction a with
    | nil => intro b _ _; exact Nat.zero_le _
    | cons x r ih =>
      intro b n h
      obtain ⟨n1, n2⟩ := List.nodup_cons.mp n
      have hx := h x List.mem_cons_self
      have := ih (b := b.erase x) n2 fun y hy => (List.mem_erase_of_ne (fun e : y = x => n1 (by rw [← e]; exact hy))).mpr (h y (List.mem_cons_of_mem _ hy))
      rw [List.length_erase_of_mem hx] at this
      have := List.length_pos_of_mem hx
      simp only [List.length_cons]
      omega
  -- those not below t
  have hQ2 : (Q.filter fun p => !decide (p < t)).length ≤ (opt.filter fun p => !decide (p < t)).length := le ((nd hQ).filter _) fun x hx => by
    obtain ⟨h1, h2⟩ := List.mem_filter.mp hx
    exact List.mem_filter.mpr ⟨sub x h1, h2⟩
  have s1 := cnt_split Q t
  have s2 := cnt_split opt t
  have hkl : k ≤ opt.length := by rw [← hk]; exact le (nd hQ) sub
  have s3 := cnt_split (opt.drop (opt.length - k)) t
  rw [List.length_drop] at s3
  -- the dropped ones come first: if one of the kept is below t, all dropped are
  have e1 : opt = opt.take (opt.length - k) ++ opt.drop (opt.length - k) := (List.take_append_drop _ _).symm
  by_cases z : cnt (opt.drop (opt.length - k)) t = 0
  · omega
  · have all : cnt (opt.take (opt.length - k)) t = (opt.take (opt.length - k)).length := by
      unfold cnt
      rw [List.filter_eq_self.mpr fun x hx => ?_]
      obtain ⟨y, hy⟩ : ∃ y, y ∈ (opt.drop (opt.length - k)).filter fun p => decide (p < t) := List.exists_mem_of_ne_nil _ fun w => z (by unfold cnt; rw [w]; rfl)
      obtain ⟨y1, y2⟩ := List.mem_filter.mp hy
      have pw := ho
      unfold Asc at pw
      rw [e1] at pw
      have := (List.pairwise_append.mp pw).2.2 x hx y y1
      simp at y2 ⊢
      omega
    have c1 : cnt opt t = cnt (opt.take (opt.length - k)) t + cnt (opt.drop (opt.length - k)) t := by
      conv => lhs; rw [e1]
      exact cnt_app _ _ _
    rw [all, List.length_take] at c1
    omega
theorem asc_nd {P : List Nat} (h : Asc P) : P.Nodup := h.imp fun h => Nat.ne_of_lt h
theorem asc_eq {P Q : List Nat} (hp : Asc P) (hq : Asc Q) (h : ∀ x, x ∈ P ↔ x ∈ Q) : P = Q :=
  List.Perm.eq_of_pairwise (fun a b _ _ h1 h2 => by omega) hp hq ((List.perm_ext_iff_of_nodup (asc_nd hp) (asc_nd hq)).mpr h)
theorem cnt_perm {P Q : List Nat} (h : List.Perm P Q) (t : Nat) : cnt P t = cnt Q t := (h.filter _).length_eq
theorem nlen : ∀ {a b : List Nat}, a.Nodup → (∀ x ∈ a, x ∈ b) → a.length ≤ b.length := by
  intro a
  induction a with
  | nil => intro b _ _; exact Nat.zero_le _
  | cons x r ih =>
    intro b n h
    obtain ⟨n1, n2⟩ := List.nodup_cons.mp n
    have hx := h x List.mem_cons_self
    have := ih (b := b.erase x) n2 fun y hy => (List.mem_erase_of_ne (fun e : y = x => n1 (by rw [← e]; exact hy))).mpr (h y (List.mem_cons_of_mem _ hy))
    rw [List.length_erase_of_mem hx] at this
    have := List.length_pos_of_mem hx
    simp only [List.length_cons]
    omega
def srt (P : List Nat) : List Nat := P.mergeSort fun a b => decide (a ≤ b)
theorem srt_perm (P : List Nat) : List.Perm (srt P) P := List.mergeSort_perm _ _
theorem srt_asc {P : List Nat} (h : P.Nodup) : Asc (srt P) := by
  have hq := List.pairwise_mergeSort (le := fun a b : Nat => decide (a ≤ b)) (fun a b c h1 h2 => by simp only [decide_eq_true_eq] at *; omega) (fun a b => by simp only [Bool.or_eq_true, decide_eq_true_eq]; omega) P
  have hn : (srt P).Nodup := (srt_perm P).nodup_iff.mpr h
  have h1 := List.pairwise_iff_getElem.mp hq
  have h2 := List.pairwise_iff_getElem.mp hn
  refine List.pairwise_iff_getElem.mpr fun i j hi hj hij => ?_
  have a1 := of_decide_eq_true (h1 i j hi hj hij)
  have a2 := h2 i j hi hj hij
  show (srt P)[i] < (srt P)[j]
  have a1' : (srt P)[i] ≤ (srt P)[j] := a1
  omega
theorem part_perm {fx P : List Nat} (nf : fx.Nodup) (np : P.Nodup) (sub : ∀ x ∈ fx, x ∈ P) : List.Perm P (fx ++ P.filter fun x => decide (x ∉ fx)) := by
  refine (List.perm_ext_iff_of_nodup np (List.nodup_append.mpr ⟨nf, np.filter _, fun a ha b hb e => ?_⟩)).mpr fun x => ?_
  · have := (List.mem_filter.mp hb).2
    simp [← e, ha] at this
  · simp only [List.mem_append, List.mem_filter, decide_eq_true_eq]
    constructor
    · intro h; by_cases z : x ∈ fx
      · exact .inl z
      · exact .inr ⟨h, z⟩
    · rintro (h | h)
      · exact sub x h
      · exact h.1
section
variable {R : List Nat → Prop} {need : Nat} {all req : List Nat}
/-- less at each moment leaves more room -/
def Less (R : List Nat → Prop) : Prop := ∀ P Q : List Nat, (∀ t, cnt P t ≤ cnt Q t) → R Q → R P
/-- the latest choice of some optional ones beside the fixed ones -/
def latest (need : Nat) (fx opt : List Nat) : List Nat := fx ++ opt.drop (opt.length - (need - fx.length))
def feas (R : List Nat → Prop) (need : Nat) (fx opt : List Nat) : Prop := fx.length ≤ need ∧ need ≤ fx.length + opt.length ∧ R (latest need fx opt)
theorem feas_iff (mono : Less R) {fx opt : List Nat} (ho : Asc opt) (nf : fx.Nodup) (dis : ∀ x ∈ fx, x ∉ opt) : feas R need fx opt ↔ ∃ P, Asc P ∧ (∀ x ∈ fx, x ∈ P) ∧ (∀ x ∈ P, x ∈ fx ∨ x ∈ opt) ∧ P.length = need ∧ R P := by
  constructor
  · intro ⟨h1, h2, h3⟩
    have nd : (latest need fx opt).Nodup := List.nodup_append.mpr ⟨nf, (asc_nd ho).sublist (List.drop_sublist _ _), fun a ha b hb e => dis a ha (e ▸ List.mem_of_mem_drop hb)⟩
    refine ⟨srt (latest need fx opt), srt_asc nd, fun x hx => (srt_perm _).mem_iff.mpr (List.mem_append_left _ hx), fun x hx => ?_, ?_, mono _ _ (fun t => Nat.le_of_eq (cnt_perm (srt_perm _) t)) h3⟩
    · rcases List.mem_append.mp ((srt_perm _).mem_iff.mp hx) with h | h
      · exact .inl h
      · exact .inr (List.mem_of_mem_drop h)
    · rw [(srt_perm _).length_eq]
      unfold latest
      rw [List.length_append, List.length_drop]
      omega
  · intro ⟨P, h1, h2, h3, h4, h5⟩
    have pp := part_perm nf (asc_nd h1) h2
    have hl := pp.length_eq
    rw [List.length_append] at hl
    have hQ : Asc (P.filter fun x => decide (x ∉ fx)) := h1.filter _
    have sub : ∀ x ∈ (P.filter fun x => decide (x ∉ fx)), x ∈ opt := fun x hx => by
      obtain ⟨a, b⟩ := List.mem_filter.mp hx
      rcases h3 x a with z | z
      · simp [z] at b
      · exact z
    have le : (P.filter fun x => decide (x ∉ fx)).length ≤ opt.length := by
      exact nlen (asc_nd hQ) sub
    refine ⟨by omega, by omega, mono _ _ (fun t => ?_) h5⟩
    rw [cnt_perm pp t]
    unfold latest
    rw [cnt_app, cnt_app]
    have := cnt_latest ho hQ sub (k := need - fx.length) (by omega) t
    omega
/-- a choice: ascending, of all, with the required ones, of the size, with room -/
structure Ch (R : List Nat → Prop) (need : Nat) (all req P : List Nat) : Prop where
  asc : Asc P
  sub : ∀ x ∈ P, x ∈ all
  req : ∀ x ∈ req, x ∈ P
  len : P.length = need
  rm : R P
theorem whole_iff (mono : Less R) (ha : Asc all) (hr : Asc req) (hs : ∀ x ∈ req, x ∈ all) : feas R need req (all.filter fun x => decide (x ∉ req)) ↔ ∃ P, Ch R need all req P := by
  rw [feas_iff mono (ha.filter _) (asc_nd hr) fun x hx z => by simpa [hx] using (List.mem_filter.mp z).2]
  constructor
  · intro ⟨P, h1, h2, h3, h4, h5⟩
    refine ⟨P, h1, fun x hx => ?_, h2, h4, h5⟩
    rcases h3 x hx with z | z
    · exact hs x z
    · exact (List.mem_filter.mp z).1
  · intro ⟨P, h⟩
    refine ⟨P, h.asc, h.req, fun x hx => ?_, h.len, h.rm⟩
    by_cases z : x ∈ req
    · exact .inl z
    · exact .inr (List.mem_filter.mpr ⟨h.sub x hx, by simpa using z⟩)
/-- the greedy choice so far -/
structure Gr (R : List Nat → Prop) (need : Nat) (all req d ch : List Nat) : Prop where
  asc : Asc ch
  sub : ∀ x ∈ ch, x ∈ d
  ex : ∃ P, Ch R need all req P ∧ ∀ y ∈ d, y ∈ P ↔ y ∈ ch
  lm : ∀ P, Ch R need all req P → ∀ y ∈ P, y ∈ d → y ∉ ch → ∃ z ∈ ch, z ∉ P ∧ z < y
theorem Gr.nil (h : ∃ P, Ch R need all req P) : Gr R need all req [] [] := by
  obtain ⟨P, h⟩ := h
  exact ⟨.nil, by simp, ⟨P, h, by simp⟩, fun _ _ _ _ h => by simp at h⟩
theorem Gr.test (mono : Less R) (ha : Asc all) (hr : Asc req) {d r ch : List Nat} {x : Nat} (e : all = d ++ x :: r) (g : Gr R need all req d ch) :
    feas R need (ch ++ [x] ++ req.filter fun y => decide (x < y)) ((all.filter fun y => decide (x < y)).filter fun y => decide (y ∉ req)) ↔ ∃ P, Ch R need all req P ∧ (∀ y ∈ d, y ∈ P ↔ y ∈ ch) ∧ x ∈ P := by
  have pw := ha
  unfold Asc at pw
  rw [e] at pw
  obtain ⟨p1, p2, p3⟩ := List.pairwise_append.mp pw
  obtain ⟨p4, p5⟩ := List.pairwise_cons.mp p2
  have dx : ∀ y ∈ d, y < x := fun y hy => p3 y hy x List.mem_cons_self
  have mem : ∀ {y}, y ∈ all → y ∈ d ∨ y = x ∨ (y ∈ r ∧ x < y) := fun {y} h => by
    rw [e] at h
    rcases List.mem_append.mp h with h | h
    · exact .inl h
    · rcases List.mem_cons.mp h with h | h
      · exact .inr (.inl h)
      · exact .inr (.inr ⟨h, p4 y h⟩)
  have xa : x ∈ all := by rw [e]; simp
  have da : ∀ y ∈ d, y ∈ all := fun y hy => by rw [e]; exact List.mem_append_left _ hy
  obtain ⟨P0, c0, k0⟩ := g.ex
  have ra : ∀ y ∈ req, y ∈ all := fun y hy => c0.sub y (c0.req y hy)
  have rd : ∀ y ∈ req, y ∈ d → y ∈ ch := fun y hy hd => (k0 y hd).mp (c0.req y hy)
  have inF : ∀ {y}, y ∈ ch ++ [x] ++ (req.filter fun y => decide (x < y)) ↔ y ∈ ch ∨ y = x ∨ (y ∈ req ∧ x < y) := fun {y} => by
    simp [List.mem_append, List.mem_filter]
  have inO : ∀ {y}, y ∈ ((all.filter fun y => decide (x < y)).filter fun y => decide (y ∉ req)) ↔ (y ∈ all ∧ x < y) ∧ y ∉ req := fun {y} => by
    simp only [List.mem_filter, decide_eq_true_eq]
  have nd : (ch ++ [x] ++ req.filter fun y => decide (x < y)).Nodup := by
    rw [List.append_assoc]
    refine List.nodup_append.mpr ⟨asc_nd g.asc, List.nodup_append.mpr ⟨by simp, (asc_nd hr).filter _, fun a h1 b h2 => ?_⟩, fun a h1 b h2 => ?_⟩
    · have := (List.mem_filter.mp h2).2
      simp at this h1
      omega
    · have q1 := dx a (g.sub a h1)
      rcases List.mem_append.mp h2 with h | h
      · simp at h; omega
      · have := (List.mem_filter.mp h).2
        simp at this
        omega
  rw [feas_iff mono ((ha.filter _).filter _) nd fun y hy z => ?_]
  · constructor
    · intro ⟨P, h1, h2, h3, h4, h5⟩
      refine ⟨P, ⟨h1, fun y hy => ?_, fun y hy => ?_, h4, h5⟩, fun y hy => ⟨fun h => ?_, fun h => h2 y (inF.mpr (.inl h))⟩, h2 x (inF.mpr (.inr (.inl rfl)))⟩
      · rcases h3 y hy with z | z
        · rcases inF.mp z with z | z | z
          · exact da y (g.sub y z)
          · rw [z]; exact xa
          · exact ra y z.1
        · exact (inO.mp z).1.1
      · rcases mem (ra y hy) with z | z | z
        · exact h2 y (inF.mpr (.inl (rd y hy z)))
        · exact h2 y (inF.mpr (.inr (.inl z)))
        · exact h2 y (inF.mpr (.inr (.inr ⟨hy, z.2⟩)))
      · have q := dx y hy
        rcases h3 y h with z | z
        · rcases inF.mp z with z | z | z
          · exact z
          · omega
          · omega
        · have := (inO.mp z).1.2
          omega
    · intro ⟨P, c, k, hx⟩
      refine ⟨P, c.asc, fun y hy => ?_, fun y hy => ?_, c.len, c.rm⟩
      · rcases inF.mp hy with z | z | z
        · exact (k y (g.sub y z)).mpr z
        · rw [z]; exact hx
        · exact c.req y z.1
      · rcases mem (c.sub y hy) with z | z | z
        · exact .inl (inF.mpr (.inl ((k y z).mp hy)))
        · exact .inl (inF.mpr (.inr (.inl z)))
        · by_cases w : y ∈ req
          · exact .inl (inF.mpr (.inr (.inr ⟨w, z.2⟩)))
          · exact .inr (inO.mpr ⟨⟨c.sub y hy, z.2⟩, w⟩)
  · obtain ⟨⟨_, q1⟩, q2⟩ := inO.mp z
    rcases inF.mp hy with w | w | w
    · have := dx y (g.sub y w); omega
    · omega
    · exact q2 w.1
theorem Gr.take {d r ch : List Nat} {x : Nat} (ha : Asc all) (e : all = d ++ x :: r) (g : Gr R need all req d ch) (h : ∃ P, Ch R need all req P ∧ (∀ y ∈ d, y ∈ P ↔ y ∈ ch) ∧ x ∈ P) : Gr R need all req (d ++ [x]) (ch ++ [x]) := by
  unfold Asc at ha
  rw [e] at ha
  have dx : ∀ y ∈ d, y < x := fun y hy => (List.pairwise_append.mp ha).2.2 y hy x List.mem_cons_self
  obtain ⟨P, c, k, hx⟩ := h
  refine ⟨List.pairwise_append.mpr ⟨g.asc, by simp, fun a h1 b h2 => ?_⟩, fun y hy => ?_, ⟨P, c, fun y hy => ?_⟩, fun P' c' y hy hd hn => ?_⟩
  · simp at h2; rw [h2]; exact dx a (g.sub a h1)
  · rcases List.mem_append.mp hy with z | z
    · exact List.mem_append_left _ (g.sub y z)
    · exact List.mem_append_right _ z
  · rcases List.mem_append.mp hy with z | z
    · rw [k y z, List.mem_append]
      have := dx y z
      constructor
      · exact .inl
      · rintro (w | w)
        · exact w
        · simp at w; omega
    · simp at z; subst z; simp [hx]
  · have hy2 : y ∉ ch := fun z => hn (List.mem_append_left _ z)
    have hy3 : y ∈ d := by
      rcases List.mem_append.mp hd with z | z
      · exact z
      · exact absurd (List.mem_append_right _ z) hn
    obtain ⟨z, z1, z2, z3⟩ := g.lm P' c' y hy hy3 hy2
    exact ⟨z, List.mem_append_left _ z1, z2, z3⟩
theorem Gr.skip {d r ch : List Nat} {x : Nat} (ha : Asc all) (e : all = d ++ x :: r) (g : Gr R need all req d ch) (h : ¬ ∃ P, Ch R need all req P ∧ (∀ y ∈ d, y ∈ P ↔ y ∈ ch) ∧ x ∈ P) : Gr R need all req (d ++ [x]) ch := by
  unfold Asc at ha
  rw [e] at ha
  have dx : ∀ y ∈ d, y < x := fun y hy => (List.pairwise_append.mp ha).2.2 y hy x List.mem_cons_self
  have xc : x ∉ ch := fun z => by have := dx x (g.sub x z); omega
  obtain ⟨P, c, k⟩ := g.ex
  refine ⟨g.asc, fun y hy => List.mem_append_left _ (g.sub y hy), ⟨P, c, fun y hy => ?_⟩, fun P' c' y hy hd hn => ?_⟩
  · rcases List.mem_append.mp hy with z | z
    · exact k y z
    · simp at z; subst z
      exact ⟨fun w => absurd ⟨P, c, k, w⟩ h, fun w => absurd w xc⟩
  · rcases List.mem_append.mp hd with z | z
    · exact g.lm P' c' y hy z hn
    · simp at z; subst z
      apply Classical.byContradiction
      intro w
      have w' : ∀ z ∈ ch, z ∈ P' := fun z hz => by
        apply Classical.byContradiction
        intro q
        exact w ⟨z, hz, q, dx z (g.sub z hz)⟩
      refine h ⟨P', c', fun u hu => ⟨fun q => ?_, w' u⟩, hy⟩
      apply Classical.byContradiction
      intro q2
      obtain ⟨z, z1, z2, _⟩ := g.lm P' c' u q hu q2
      exact z2 (w' z z1)
theorem Gr.done {ch : List Nat} (g : Gr R need all req all ch) : Ch R need all req ch ∧ ∀ P, Ch R need all req P → ∀ y ∈ P, y ∉ ch → ∃ z ∈ ch, z ∉ P ∧ z < y := by
  obtain ⟨P, c, k⟩ := g.ex
  have e : P = ch := asc_eq c.asc g.asc fun x => ⟨fun h => (k x (c.sub x h)).mp h, fun h => (k x (g.sub x h)).mpr h⟩
  rw [e] at c
  exact ⟨c, fun P' c' y hy hn => g.lm P' c' y hy (c'.sub y hy) hn⟩
end
end Ol
set_option Elab.async false
set_option linter.all false
set_option maxRecDepth 100000
set_option maxHeartbeats 4000000
/-! plain: which sets can stay; the least one -/
namespace Ol
open PySem PySem.Spec PyProof.Rows L2
section
variable {l : List Str} {es : List Ev} {W cs : List Str}
/-- room for a block of b cars beside the arrivals P -/
def RoomL (l : List Str) (es : List Ev) (b : Nat) (P : List Nat) : Prop := ∀ t, t ≤ es.length → (b : Int) + (cnt P t : Nat) ≤ endN l.length (es.take t)
theorem RoomL_less {b : Nat} : Less (RoomL l es b) := fun P Q h r t ht => by have := h t; have := r t ht; omega
theorem mem_posP {p : Nat} {c : Str} (h : es[p]? = some (some c)) (hc : c ∈ cs) : p ∈ posP es cs := by
  unfold posP
  refine List.mem_map.mpr ⟨(some c, p), List.mem_filter.mpr ⟨?_, by simpa [inC] using hc⟩, rfl⟩
  obtain ⟨hi, he⟩ := List.getElem?_eq_some_iff.mp h
  rw [List.mem_iff_getElem?]
  exact ⟨p, by simp [hi, he]⟩
theorem zip_filt {α : Type} (f : α → Bool) : ∀ (xs : List α) (n : Nat), ((xs.zipIdx n).filter fun p => f p.1).length = (xs.filter f).length
  | [], n => rfl
  | x :: r, n => by
    rw [List.zipIdx_cons, List.filter_cons, List.filter_cons]
    cases h : f x <;> simp [h, zip_filt f r (n + 1)]
theorem stay_cnt {i : Nat} (h : i ≤ es.length) : ((es.take i).filter (inC cs)).length = cnt (posP es cs) i := by
  have e : posP es cs = posP (es.take i) cs ++ (((es.drop i).zipIdx i).filter fun p => inC cs p.1).map (·.2) := by
    have q : es.zipIdx = (es.take i).zipIdx ++ (es.drop i).zipIdx i := by
      conv => lhs; rw [← List.take_append_drop i es]
      rw [List.zipIdx_append, List.length_take]
      congr 2
      omega
    unfold posP
    rw [q, List.filter_append, List.map_append]
  rw [e, cnt_app]
  have c1 : cnt (posP (es.take i) cs) i = (posP (es.take i) cs).length := by
    unfold cnt
    rw [List.filter_eq_self.mpr fun p hp => ?_]
    have := posP_lt hp
    rw [List.length_take] at this
    simp; omega
  have c2 : cnt ((((es.drop i).zipIdx i).filter fun p => inC cs p.1).map (·.2)) i = 0 := by
    unfold cnt
    rw [List.filter_eq_nil_iff.mpr fun p hp => ?_]
    · rfl
    · obtain ⟨q, h1, rfl⟩ := List.mem_map.mp hp
      have := List.le_snd_of_mem_zipIdx (List.mem_filter.mp h1).1
      simp; omega
  rw [c1, c2, Nat.add_zero]
  unfold posP
  rw [List.length_map, zip_filt]
theorem stay_eq {i : Nat} (h : i ≤ es.length) : stayN l es cs i = ((plc l cs).length : Nat) + (cnt (posP es cs) i : Nat) := by
  unfold stayN nIn plc
  rw [stay_cnt h, List.length_map, zip_filt fun c => decide (c ∈ cs)]
/-- departures asked of the first arrival beside a block -/
def outs (l : List Str) (a b : Nat) : Int := if a < b then (if (l.length : Int) - (b : Nat) < (a : Nat) then (l.length : Int) - (b : Nat) else (a : Nat)) else 0
/-- a set that can stay, with its block -/
structure Vb (l : List Str) (es : List Ev) (a b : Nat) (W : List Str) : Prop where
  ab : a ≤ b
  bl : b ≤ l.length
  z : a = b → a = 0
  plc : plc l W = List.range' a (b - a)
  side : ∀ p ∈ posP es W, outs l a b ≤ depN (es.take p)
  len : (W.length : Int) = endN l.length es
  room : RoomL l es (b - a) (posP es W)
theorem dep_mono {p q : Nat} (h : p ≤ q) : depN (es.take p) ≤ depN (es.take q) := by
  have := dep_between (es := es) h
  omega
theorem plc_run {p0 : Nat} {ps : List Nat} (hp : plc l W = p0 :: ps) (h : ((l.drop p0).take ((p0 :: ps).getLast (by simp) - p0)).find? (fun c => decide (c ∉ W)) = none) : plc l W = List.range' p0 ((p0 :: ps).getLast (by simp) + 1 - p0) := by
  have asc := plc_asc l W
  have hlt : ∀ {p : Nat}, p ∈ plc l W → p < l.length := fun h => plc_lt h
  refine asc_eq asc List.pairwise_lt_range' fun i => ?_
  rw [List.mem_range'_1]
  have hlast : (p0 :: ps).getLast (by simp) ∈ plc l W := by rw [hp]; exact List.getLast_mem _
  have h0 : p0 ∈ plc l W := by rw [hp]; exact List.mem_cons_self
  have hle : ∀ x ∈ plc l W, p0 ≤ x ∧ x ≤ (p0 :: ps).getLast (by simp) := fun x hx => by
    rw [hp] at asc hx
    exact ⟨asc_head asc x hx, asc_last (by simp) asc x hx⟩
  generalize (p0 :: ps).getLast (by simp) = pl at *
  constructor
  · intro hx
    have := hle i hx
    omega
  · intro ⟨h1, h2⟩
    by_cases e : i = pl
    · rw [e]; exact hlast
    · have hi : i < l.length := by have := hlt hlast; omega
      have hm : l[i] ∈ (l.drop p0).take (pl - p0) := by
        refine List.mem_of_getElem? (i := i - p0) ?_
        rw [List.getElem?_take, if_pos (by omega), List.getElem?_drop, show p0 + (i - p0) = i by omega, List.getElem?_eq_getElem hi]
      have := List.find?_eq_none.mp h _ hm
      exact mem_plc (List.getElem?_eq_getElem hi) (by simpa using this)
theorem setR_iff : setR l es W = .none ↔ ∃ a b, Vb l es a b W := by
  have sh : shortAt l es W = none ↔ ∀ t, t ≤ es.length → stayN l es W t ≤ endN l.length (es.take t) := by
    unfold shortAt
    rw [List.find?_eq_none]
    constructor
    · intro h t ht
      have := h t (by rw [List.mem_range'_1]; omega)
      simp [shortP] at this
      omega
    · intro h t ht
      rw [List.mem_range'_1] at ht
      have := h t (by omega)
      simp [shortP]
      omega
  constructor
  · intro h
    unfold setR at h
    split at h
    · cases h
    · rename_i hl
      have hl' : (W.length : Int) = endN l.length es := by omega
      split at h
      · cases h
      · rename_i hs
        have hs' := sh.mp hs
        split at h
        · rename_i hp
          refine ⟨0, 0, Nat.le_refl _, Nat.zero_le _, fun _ => rfl, hp, fun p _ => ?_, hl', fun t ht => ?_⟩
          · have := depN_nonneg (es.take p); simp [outs]; omega
          · have := hs' t ht
            rw [stay_eq ht, hp] at this
            simpa using this
        · rename_i p0 ps hp
          split at h
          · cases h
          · rename_i hf
            have hr := plc_run hp hf
            have hlast : (p0 :: ps).getLast (by simp) ∈ plc l W := by rw [hp]; exact List.getLast_mem _
            have hlt := plc_lt hlast
            have hle : p0 ≤ (p0 :: ps).getLast (by simp) := by
              have asc := plc_asc l W
              rw [hp] at asc
              exact asc_last (by simp) asc p0 List.mem_cons_self
            generalize (p0 :: ps).getLast (by simp) = pl at *
            refine ⟨p0, pl + 1, by omega, by omega, by omega, hr, fun p hpp => ?_, hl', fun t ht => ?_⟩
            · split at h
              · rename_i hq; rw [hq] at hpp; cases hpp
              · rename_i q qs hq
                by_cases hn : depN (es.take q) < (if (l.length : Int) - (pl : Nat) - 1 < (p0 : Nat) then (l.length : Int) - (pl : Nat) - 1 else (p0 : Nat))
                · rw [if_pos hn] at h; cases h
                · have : q ≤ p := by
                    have asc := posP_asc es W
                    rw [hq] at asc hpp
                    exact asc_head asc p hpp
                  have := dep_mono (es := es) this
                  unfold outs
                  rw [if_pos (by omega)]
                  have e1 : (l.length : Int) - ((pl + 1 : Nat) : Int) = (l.length : Int) - (pl : Nat) - 1 := by omega
                  rw [e1]
                  omega
            · have := hs' t ht
              rw [stay_eq ht, hr] at this
              simpa using this
  · intro ⟨a, b, v⟩
    unfold setR
    rw [if_neg (by have := v.len; omega)]
    have hs : shortAt l es W = none := sh.mpr fun t ht => by
      rw [stay_eq ht, v.plc]
      have := v.room t ht
      simpa using this
    rw [hs]
    have hp := v.plc
    dsimp only
    cases hq : plc l W with
    | nil => rfl
    | cons p0 ps =>
      dsimp only
      rw [hq] at hp
      have hab : a < b := by
        have := congrArg List.length hp
        simp at this
        omega
      have h0 : p0 = a := by
        have := congrArg List.head? hp
        rw [show b - a = (b - a - 1) + 1 by omega, List.range'_succ] at this
        simpa using this
      have hlast : (p0 :: ps).getLast (by simp) = b - 1 := by
        have h1 : (p0 :: ps).getLast? = some ((p0 :: ps).getLast (by simp)) := List.getLast?_eq_some_getLast (by simp)
        have h2 : (p0 :: ps).getLast? = (List.range' a (b - a)).getLast? := congrArg _ hp
        rw [h2, List.getLast?_range', if_neg (by omega)] at h1
        have := Option.some.inj h1
        omega
      have hf : ((l.drop p0).take ((p0 :: ps).getLast (by simp) - p0)).find? (fun c => decide (c ∉ W)) = none := by
        refine List.find?_eq_none.mpr fun c hc => ?_
        obtain ⟨i, hi⟩ := List.mem_iff_getElem?.mp hc
        rw [List.getElem?_take] at hi
        split at hi
        · rename_i hlt
          rw [List.getElem?_drop] at hi
          have hm : p0 + i ∈ plc l W := by
            rw [v.plc, List.mem_range'_1]
            rw [hlast] at hlt
            omega
          obtain ⟨c', q1, q2⟩ := plc_mem hm
          rw [hi] at q1
          cases q1
          simpa using q2
        · cases hi
      rw [hf]
      dsimp only
      cases hpp : posP es W with
      | nil => rfl
      | cons q qs =>
        dsimp only
        have := v.side q (by rw [hpp]; exact List.mem_cons_self)
        unfold outs at this
        rw [if_pos hab] at this
        rw [hlast, h0]
        have e1 : (l.length : Int) - ((b - 1 : Nat) : Int) - 1 = (l.length : Int) - (b : Nat) := by omega
        rw [e1, if_neg (by omega)]
end
end Ol
set_option Elab.async false
set_option linter.all false
set_option maxRecDepth 100000
set_option maxHeartbeats 4000000
namespace Ol
open PySem PySem.Spec PyProof.Rows L2
/-! COMPLETENESS: a lane that the machine lets pass is the lane of a history -/
def mz (a : Int) : Int := if a > 0 then a else 0
theorem mz_is (a : Int) : (0 < a → mz a = a) ∧ (a ≤ 0 → mz a = 0) := by
  unfold mz
  constructor <;> intro h <;> split <;> omega
/-- a history of d whose lane is A, the stayers, B -/
structure Hy (l line : List Str) (d : List Ev) (m : List Str) (x y : Int) : Prop where
  ex : ∃ hs A B, evs hs = d ∧ LN l hs = A ++ m ++ B ∧ (A.length : Int) = x ∧ (B.length : Int) = y
theorem Hy.put {l line : List Str} {d : List Ev} {m : List Str} {x y : Int} {c : Str} (h : Hy l line d m x y) : Hy l line (d ++ [some c]) m (x + 1) y ∧ Hy l line (d ++ [some c]) m x (y + 1) := by
  obtain ⟨hs, A, B, e, h1, h2, h3⟩ := h
  constructor
  · exact ⟨hs ++ [(some c, true)], c :: A, B, by rw [evs_app, e]; rfl, by rw [LN_snoc, h1]; simp [lnS], by simp; omega, h3⟩
  · exact ⟨hs ++ [(some c, false)], A, B ++ [c], by rw [evs_app, e]; rfl, by rw [LN_snoc, h1]; simp [lnS], h2, by simp; omega⟩
theorem Hy.offL {l line : List Str} {d : List Ev} {m : List Str} {x y : Int} (h : Hy l line d m x y) (hx : 0 < x) : Hy l line (d ++ [none]) m (x - 1) y := by
  obtain ⟨hs, A, B, e, h1, h2, h3⟩ := h
  cases A with
  | nil => simp at h2; omega
  | cons a A => exact ⟨hs ++ [(none, true)], A, B, by rw [evs_app, e]; rfl, by rw [LN_snoc, h1]; simp [lnS], by simp at h2; omega, h3⟩
theorem Hy.offR {l line : List Str} {d : List Ev} {m : List Str} {x y : Int} (h : Hy l line d m x y) (hy : 0 < y) : Hy l line (d ++ [none]) m x (y - 1) := by
  obtain ⟨hs, A, B, e, h1, h2, h3⟩ := h
  rcases snoc_cases B with rfl | ⟨B2, b, rfl⟩
  · simp at h3; omega
  · refine ⟨hs ++ [(none, false)], A, B2, by rw [evs_app, e]; rfl, ?_, h2, by simp at h3; omega⟩
    rw [LN_snoc, h1, show A ++ m ++ (B2 ++ [b]) = (A ++ m ++ B2) ++ [b] by simp]
    show ((A ++ m ++ B2) ++ [b]).dropLast = _
    rw [List.dropLast_concat]
theorem Hy.joinL {l line : List Str} {d : List Ev} {m : List Str} {y : Int} {c : Str} (h : Hy l line d m 0 y) : Hy l line (d ++ [some c]) (c :: m) 0 y := by
  obtain ⟨hs, A, B, e, h1, h2, h3⟩ := h
  have hA : A = [] := List.eq_nil_of_length_eq_zero (by omega)
  subst hA
  exact ⟨hs ++ [(some c, true)], [], B, by rw [evs_app, e]; rfl, by rw [LN_snoc, h1]; simp [lnS], rfl, h3⟩
theorem Hy.joinR {l line : List Str} {d : List Ev} {m : List Str} {x : Int} {c : Str} (h : Hy l line d m x 0) : Hy l line (d ++ [some c]) (m ++ [c]) x 0 := by
  obtain ⟨hs, A, B, e, h1, h2, h3⟩ := h
  have hB : B = [] := List.eq_nil_of_length_eq_zero (by omega)
  subst hB
  exact ⟨hs ++ [(some c, false)], A, [], by rw [evs_app, e]; rfl, by rw [LN_snoc, h1]; simp [lnS], h2, rfl⟩
/-- without stayers the parts may be cut anywhere -/
theorem Hy.cut {l line : List Str} {d : List Ev} {x y x' y' : Int} (h : Hy l line d [] x y) (h0 : 0 ≤ x') (h1 : 0 ≤ y') (hs : x' + y' = x + y) : Hy l line d [] x' y' := by
  obtain ⟨hs', A, B, e, q1, q2, q3⟩ := h
  refine ⟨hs', (A ++ B).take x'.toNat, (A ++ B).drop x'.toNat, e, by rw [q1]; simp, ?_, ?_⟩
  · rw [List.length_take, List.length_append]; omega
  · rw [List.length_drop, List.length_append]; omega
theorem can_hist {l line : List Str} {es : List Ev} (ndl : l.Nodup) (h : canM l es line) : ∃ hs, evs hs = es ∧ LN l hs = line := by
  obtain ⟨ok, s, hs, hrun, ht⟩ := h
  have key : ∀ d : List Ev, ∀ s, mF line (st0 l line) d = some s → 0 ≤ s.t ∧ Hy l line d s.run (mz s.a) (s.t - mz s.a) ∧ Hy l line d s.run (s.t - mz s.b) (mz s.b) ∧ (s.run = [] → s.a ≤ 0 ∧ s.b ≤ 0) := by
    refine snoc_ind ?_ ?_
    · intro s h
      have h0 : st0 l line = s := Option.some.inj h
      subst h0
      cases hr : run l line with
      | nil =>
        have e : st0 l line = ⟨(l.length : Nat), 0, 0, []⟩ := by unfold st0; rw [hr]
        rw [e]
        have b : Hy l line [] [] 0 (l.length : Nat) := ⟨[], [], l, rfl, rfl, rfl, rfl⟩
        have m0 := (mz_is 0).2 (by omega)
        simp only [m0]
        exact ⟨by omega, b.cut (by omega) (by omega) (by omega), b.cut (by omega) (by omega) (by omega), fun _ => ⟨by omega, by omega⟩⟩
      | cons r0 rs =>
        obtain ⟨ps, hp, h1, h2, h3⟩ := eOk_ix ndl ok hr
        have e : st0 l line = ⟨(l.length : Nat) - ((r0 :: rs).length : Nat), (ix l r0 : Nat), (l.length : Nat) - (ix l r0 : Nat) - ((r0 :: rs).length : Nat), r0 :: rs⟩ := by unfold st0; rw [hr]
        rw [e]
        have hlen := congrArg List.length h3
        rw [List.length_take, List.length_drop] at hlen
        have hr1 : 0 < (r0 :: rs).length := by simp
        have el : l = l.take (ix l r0) ++ (r0 :: rs) ++ l.drop (ix l r0 + (r0 :: rs).length) := by
          have e1 : l.drop (ix l r0 + (r0 :: rs).length) = (l.drop (ix l r0)).drop (r0 :: rs).length := by rw [List.drop_drop]
          have e2 := List.take_append_drop (r0 :: rs).length (l.drop (ix l r0))
          rw [h3] at e2
          rw [e1, List.append_assoc, e2, List.take_append_drop]
        have m1 : mz (ix l r0 : Nat) = (ix l r0 : Nat) := by
          by_cases q : (0 : Int) < (ix l r0 : Nat)
          · exact (mz_is _).1 q
          · rw [(mz_is _).2 (by omega)]; omega
        have m2 : mz ((l.length : Nat) - (ix l r0 : Nat) - ((r0 :: rs).length : Nat)) = (l.length : Nat) - (ix l r0 : Nat) - ((r0 :: rs).length : Nat) := by
          by_cases q : (0 : Int) < (l.length : Nat) - (ix l r0 : Nat) - ((r0 :: rs).length : Nat)
          · exact (mz_is _).1 q
          · rw [(mz_is _).2 (by omega)]; omega
        generalize (r0 :: rs).length = k at *
        have b : Hy l line [] (r0 :: rs) (ix l r0 : Nat) ((l.length : Nat) - (ix l r0 : Nat) - (k : Nat)) := ⟨[], l.take (ix l r0), l.drop (ix l r0 + k), rfl, el, by rw [List.length_take]; omega, by rw [List.length_drop]; omega⟩
        simp only [m1, m2]
        refine ⟨by omega, ?_, ?_, fun z => by cases z⟩
        · rw [show ((l.length : Nat) : Int) - (k : Nat) - (ix l r0 : Nat) = (l.length : Nat) - (ix l r0 : Nat) - (k : Nat) by omega]; exact b
        · rw [show ((l.length : Nat) : Int) - (k : Nat) - ((l.length : Nat) - (ix l r0 : Nat) - (k : Nat)) = (ix l r0 : Nat) by omega]; exact b
    · intro d x ih s' h
      rw [mF_snoc, Option.bind_eq_some_iff] at h
      obtain ⟨s, h1, h2⟩ := h
      obtain ⟨t0, lo, hi, em⟩ := ih s h1
      have za := mz_is s.a
      have zb := mz_is s.b
      have bnd : mz s.a ≤ s.t ∧ mz s.b ≤ s.t ∧ 0 ≤ mz s.a ∧ 0 ≤ mz s.b := by
        obtain ⟨_, _, B, _, _, _, q⟩ := lo
        obtain ⟨_, A, _, _, _, q2, _⟩ := hi
        refine ⟨by omega, by omega, ?_, ?_⟩
        · by_cases w : 0 < s.a
          · rw [za.1 w]; omega
          · rw [za.2 (by omega)]; omega
        · by_cases w : 0 < s.b
          · rw [zb.1 w]; omega
          · rw [zb.2 (by omega)]; omega
      cases x with
      | none =>
        obtain ⟨p0, rfl⟩ := mS_none.mp h2
        have za1 := mz_is (s.a - 1)
        have zb1 := mz_is (s.b - 1)
        simp only
        refine ⟨p0, ?_, ?_, fun z => by have := em z; omega⟩
        · by_cases w : 0 < s.a
          · have := lo.offL (by omega)
            have e1 : mz s.a - 1 = mz (s.a - 1) := by
              rw [za.1 w]
              by_cases w2 : 0 < s.a - 1
              · rw [za1.1 w2]
              · rw [za1.2 (by omega)]; omega
            rw [e1] at this
            rw [show s.t - 1 - mz (s.a - 1) = s.t - mz s.a by omega]
            exact this
          · have e0 := za.2 (by omega)
            have e1 := za1.2 (by omega)
            rw [e0] at lo
            have := lo.offR (by omega)
            rw [e1, show s.t - 1 - 0 = s.t - 0 - 1 by omega]
            exact this
        · by_cases w : 0 < s.b
          · have := hi.offR (by omega)
            have e1 : mz s.b - 1 = mz (s.b - 1) := by
              rw [zb.1 w]
              by_cases w2 : 0 < s.b - 1
              · rw [zb1.1 w2]
              · rw [zb1.2 (by omega)]; omega
            rw [e1] at this
            rw [show s.t - 1 - mz (s.b - 1) = s.t - mz s.b by omega]
            exact this
          · have e0 := zb.2 (by omega)
            have e1 := zb1.2 (by omega)
            rw [e0] at hi
            have := hi.offL (by omega)
            rw [e1, show s.t - 1 - 0 = s.t - 0 - 1 by omega]
            exact this
      | some c =>
        by_cases hc : c ∈ line
        · have m0 := (mz_is 0).2 (by omega)
          have mt : mz s.t = s.t := by
            by_cases w : 0 < s.t
            · exact (mz_is _).1 w
            · rw [(mz_is _).2 (by omega)]; omega
          cases e : s.run with
          | nil =>
            have := (mS_in0 hc e).mp h2
            subst this
            rw [e] at lo
            simp only [m0, Int.sub_zero]
            have b0 := (lo.cut (x' := 0) (y' := s.t) (by omega) t0 (by omega)).joinL (c := c)
            have b1 := (lo.cut (x' := s.t) (y' := 0) t0 (by omega) (by omega)).joinR (c := c)
            exact ⟨t0, b0, b1, fun z => by cases z⟩
          | cons r0 rs =>
            by_cases q : ix line c < ix line r0
            · obtain ⟨ha, rfl⟩ := (mS_inL hc e q).mp h2
              rw [e, za.2 ha, Int.sub_zero] at lo
              have b := lo.joinL (c := c)
              simp only [m0, mt, Int.sub_zero, Int.sub_self]
              exact ⟨t0, b, b, fun z => by cases z⟩
            · obtain ⟨hb, rfl⟩ := (mS_inR hc e q).mp h2
              rw [e, zb.2 hb, Int.sub_zero] at hi
              have b := hi.joinR (c := c)
              simp only [m0, mt, Int.sub_zero, Int.sub_self]
              exact ⟨t0, b, b, fun z => by simp at z⟩
        · have := (mS_out hc).mp h2
          subst this
          simp only
          refine ⟨by omega, ?_, ?_, em⟩
          · have := (lo.put (c := c)).2
            rw [show s.t + 1 - mz s.a = s.t - mz s.a + 1 by omega]
            exact this
          · have := (hi.put (c := c)).1
            rw [show s.t + 1 - mz s.b = s.t - mz s.b + 1 by omega]
            exact this
  obtain ⟨t0, lo, _, _⟩ := key es s hs
  obtain ⟨hh, A, B, e, h1, h2, h3⟩ := lo
  have hA : A = [] := List.eq_nil_of_length_eq_zero (by
    have : 0 ≤ mz s.a := by unfold mz; split <;> omega
    omega)
  have hB : B = [] := List.eq_nil_of_length_eq_zero (by
    have : 0 ≤ mz s.a := by unfold mz; split <;> omega
    omega)
  refine ⟨hh, e, ?_⟩
  rw [h1, hA, hB, hrun]
  simp
end Ol
set_option Elab.async false
set_option linter.all false
set_option maxRecDepth 100000
set_option maxHeartbeats 4000000
/-! all lanes after a log: the law's _law_step, _law_few -/
namespace Ol
open PySem PySem.Spec PyProof.Rows L2
abbrev tru1 (ks : List (List Str)) : List (List Str × D) := ks.map fun k => (k, PyData.bool true)
theorem has_tru (ks : List (List Str)) (k : List Str) : hasS (tru1 ks) k = decide (k ∈ ks) := by
  unfold hasS tru1
  rw [List.any_map, Bool.eq_iff_iff]
  simp
theorem f_setT {ks : List (List Str)} {k : List Str} (h : ks.length < 100000) : fSetT (.dit (tru1 ks)) (sD k) (.bool true) = some (.dit (tru1 (added ks k))) := by
  have e : putS (tru1 ks) k (.bool true) = tru1 (added ks k) := by
    unfold putS added
    rw [has_tru]
    by_cases c : k ∈ ks
    · rw [if_pos (by simpa using c), if_pos c]
      unfold tru1
      rw [List.map_map]
      refine List.map_congr_left fun x hx => ?_
      simp only [Function.comp_apply]
      by_cases z : x = k
      · rw [if_pos z]
      · rw [if_neg z]
    · rw [if_neg (by simpa using c), if_neg c]
      simp [tru1]
  show (strsOf (k.map .str)).bind _ = _
  rw [strsOf_strs, Option.bind_some, if_pos (by simpa [tru1] using h), e]
/-- all lanes after one event -/
def stp (x : Ev) (ls : List (List Str)) : List (List Str) := ls.foldl (fun acc L => added (added acc (lnS L (x, true))) (lnS L (x, false))) []
theorem stp_snoc (x : Ev) (ls : List (List Str)) (L : List Str) : stp x (ls ++ [L]) = added (added (stp x ls) (lnS L (x, true))) (lnS L (x, false)) := by
  unfold stp
  rw [List.foldl_append]
  rfl
theorem rev_ind {α : Type} {P : List α → Prop} (h0 : P []) (h1 : ∀ l x, P l → P (l ++ [x])) : ∀ l, P l := by
  intro l
  have : ∀ n (l : List α), l.length = n → P l := by
    intro n
    induction n with
    | zero => intro l h; rw [List.length_eq_zero_iff.mp h]; exact h0
    | succ n ih =>
      intro l h
      rcases snoc_cases l with rfl | ⟨r, y, rfl⟩
      · simp at h
      · exact h1 r y (ih r (by simpa using h))
  exact this _ l rfl
theorem mem_stp {x : Ev} {y : List Str} : ∀ ls : List (List Str), y ∈ stp x ls ↔ ∃ L ∈ ls, ∃ b, y = lnS L (x, b) := by
  refine rev_ind (by simp [stp]) fun ls L ih => ?_
  rw [stp_snoc, mem_added, mem_added, ih]
  constructor
  · rintro ((⟨M, h1, b, h2⟩ | h) | h)
    · exact ⟨M, List.mem_append_left _ h1, b, h2⟩
    · exact ⟨L, by simp, true, h⟩
    · exact ⟨L, by simp, false, h⟩
  · rintro ⟨M, h1, b, h2⟩
    rcases List.mem_append.mp h1 with h | h
    · exact .inl (.inl ⟨M, h, b, h2⟩)
    · rw [List.mem_singleton] at h
      subst h
      cases b with
      | true => exact .inl (.inr h2)
      | false => exact .inr h2
theorem added_le (ks : List (List Str)) (k : List Str) : (added ks k).length ≤ ks.length + 1 := added_len ks k
theorem stp_len (x : Ev) : ∀ ls : List (List Str), (stp x ls).length ≤ 2 * ls.length := by
  refine rev_ind (by simp [stp]) fun ls L ih => ?_
  rw [stp_snoc]
  have h1 := added_le (added (stp x ls) (lnS L (x, true))) (lnS L (x, false))
  have h2 := added_le (stp x ls) (lnS L (x, true))
  rw [List.length_append, List.length_singleton]
  omega
theorem slT_f1 (l : List Str) : oSl (some 1) none (.d (sD l)) = some (.d (sD (l.drop 1))) := by
  show some (PV.d (.tuple (cutD _ _ _))) = _
  have : cutD (l.map PyData.str) (some 1) none = (l.drop 1).map PyData.str := by
    cases l with
    | nil => simp [cutD, HT.sIx]
    | cons a r => rw [cut_from _ _ (by decide) (by simp; omega), ← List.map_drop]; rfl
  rw [this]
theorem slT_m1 (l : List Str) : oSl none (some (-1)) (.d (sD l)) = some (.d (sD l.dropLast)) := by
  show some (PV.d (.tuple (cutD _ _ _))) = _
  rw [cut_m1, ← List.map_dropLast]
section
variable {Q : PV → List (Option Ob) → Prop} {l : List Str} {es : List Ev}
structure StI (ls : List (List Str)) (x : Ev) (d : List (List Str)) (e : Env) : Prop where
  ex : ∃ v3 : Option D, e = [some (.d (.list (ls.map sD))), some (.d (ev x)), some (.own false (.dit (tru1 (stp x d)))), v3.map .d]
local macro_rules | `(tactic| walk_at "SD.P12s") => `(tactic| first
  | omega
  | (simp only [List.length_map, List.length_append, List.length_cons, List.length_nil, List.length_drop, List.length_take, List.length_dropLast, List.length_singleton, List.length_eraseIdx, List.length_zipIdx, List.length_range, List.length_range', List.length_reverse, List.length_set]; omega)
  | (with_reducible assumption))
local macro_rules | `(tactic| walk_at "CLEAN.P12s") => `(tactic| dsimp only [rd, rds, sget, sset, fz, fzs, fzP, flt, store, stores, svOf, comps, mNames, back, backs, Ob.rv, Ob.kind, pars, par, fzIO, putOuts, outsOf, okSlots, pick, wipeE, restE, frT, List.map, List.append_nil, List.nil_append, List.cons_append, List.replicate, Option.bind_some, bD, iD, if_true, reduceIte, List.getElem?_cons_zero, List.getElem?_cons_succ])
local macro_rules | `(tactic| walk_at "CL.P12s") => `(tactic| try (dsimp only [rd, rds, sget, sset, fz, fzs, fzP, flt, store, stores, svOf, comps, mNames, back, backs, Ob.rv, Ob.kind, pars, par, fzIO, putOuts, outsOf, okSlots, pick, wipeE, restE, frT, Option.map_some, List.map, List.append_nil, List.nil_append, List.cons_append, List.replicate, Option.bind_some, bD, iD, if_true, reduceIte, List.getElem?_cons_zero, List.getElem?_cons_succ]))
local macro_rules | `(tactic| walk_at "OP.P12s") => `(tactic| first
  | (with_reducible assumption)
  | (apply_rules (transparency := .reducible) (maxDepth := 1) only [in_tup, in_lst, in_set, in_dic, ix_list0, ix_list1, ix_tup0, ix_tup1, o_eqI, o_neI, ix_evI, ix_evC, ix_evO, o_eqII, o_eqOI, o_eqIO, o_eqOO, o_neNilI, o_eqNilI, o_rev, o_isB, strsOf_strs])
  | ((with_reducible refine o_addS ?_); walk_at "SD.P12s")
  | ((with_reducible refine o_addT ?_); walk_at "SD.P12s")
  | ((with_reducible refine o_addL ?_); walk_at "SD.P12s")
  | ((with_reducible refine f_append ?_); walk_at "SD.P12s")
  | ((with_reducible refine o_div ?_ ?_) <;> walk_at "SD.P12s")
  | ((with_reducible refine o_mod ?_); walk_at "SD.P12s")
  | (with_reducible refine o_eqS (by first | assumption | exact ok_in | exact ok_out) (by first | assumption | exact ok_in | exact ok_out))
  | ((with_reducible refine o_ixS ?_ ?_) <;> walk_at "SD.P12s")
  | ((with_reducible refine o_ixT ?_ ?_) <;> walk_at "SD.P12s")
  | ((with_reducible refine f_setS ?_ ?_) <;> walk_at "SD.P12s")
  | ((with_reducible refine o_minL ?_); walk_at "SD.P12s")
  | ((with_reducible refine o_neNil ?_); (with_reducible assumption))
  | ((with_reducible refine o_eqNil ?_); (with_reducible assumption))
  | ((with_reducible refine f_popAt ?_ ?_ ?_) <;> walk_at "SD.P12s")
  | ((with_reducible refine f_setT ?_); (walk_at "SD.P12s"))
  | ((with_reducible exact slT_f1 _))
  | ((with_reducible exact slT_m1 _))
  | ((fail_if_success (with_reducible apply may_pop)); exact rfl)
  | (exact store_om rfl rfl)
  | (exact store_oo rfl rfl)
  | walk_at "SD.P12s")
local macro_rules | `(tactic| walk_at "EV1.P12s") => `(tactic| (first
  | (apply_rules (transparency := .reducible) (maxDepth := 500) only [u_thn, u_thnR, u_turn, u_turnR, u_finN, u_finR, u_inx, u_seq, u_ifS, u_skip, u_asgF, u_asg, u_asgT, u_idx, u_listR, u_ssI, u_ss, u_drop, u_ret, u_retN, u_retT, u_par, u_setIx, u_for, u_break, u_cont, u_c, u_newT, u_m1, u_m2, u_nil, u_cons, u_mB, u_tup, u_lst, u_test, u_tru, u_yes, u_andT, u_orT, u_notT, u_and, u_or, u_not, u_if, u_chain, u_noP, u_P, u_sl, u_meth, u_isi, u_isi2, u_call, u_callK, u_iter, u_enum, u_range1, u_range2, sp_tt, sp_ff, Exists.intro])
  | ((with_reducible refine u_mayVar ?_); first | (refine u_var rfl ?_) | (refine u_varO rfl ?_))
  | ((with_reducible refine u_mayWG ?_); first | (refine u_g (by first | (walk_at "CLEAN.P12s"; exact rfl) | (walk_at "CLEAN.P12s"; done) | exact store_om rfl rfl | exact store_oo rfl rfl) ?_) | (refine u_gs (by first | (walk_at "CLEAN.P12s"; exact rfl) | (walk_at "CLEAN.P12s"; done)) ?_))
  | ((with_reducible refine sp_dt ?_ ?_); focus (first | assumption | omega))
  | ((with_reducible refine sp_df ?_ ?_); focus (first | assumption | omega))
  | ((with_reducible refine sp_et ?_ ?_); focus (first | assumption | omega))
  | ((with_reducible refine sp_ndt ?_ ?_); focus (first | assumption | omega))
  | ((with_reducible refine sp_ndf ?_ ?_); focus (first | assumption | omega))
  | ((with_reducible refine sp_ef ?_ ?_); focus (first | assumption | omega))
  | (with_reducible refine sp_t (by assumption) ?_)
  | (with_reducible refine sp_f (by assumption) ?_)
  | (with_reducible refine sp_nt (by first | assumption | rfl) ?_)
  | (with_reducible refine sp_nf (by first | assumption | rfl) ?_)
  | (with_reducible refine sp_d (fun hb => ?_) (fun hb => ?_))
  | (with_reducible refine sp_nd (fun hb => ?_) (fun hb => ?_))
  | (with_reducible refine sp_e (fun hb => ?_) (fun hb => ?_))
  | (with_reducible refine sp_ne (fun hb => ?_) (fun hb => ?_))
  | (with_reducible refine sp_xf (fun hb => ?_) (fun hb => ?_))
  | (with_reducible refine sp_xt (fun hb => ?_) (fun hb => ?_))
  | (with_reducible refine sp_b (fun hb => ?_) (fun hb => ?_))
  | ((with_reducible refine u_mayWF ?_); (try (first | (with_reducible refine u_svs1 ?_) | (with_reducible refine u_svs2 ?_) | (with_reducible refine u_svs3 ?_) | (with_reducible refine u_svs4 ?_) | (with_reducible refine u_svs5 ?_) | (with_reducible refine u_svs6 ?_) | (with_reducible refine u_svs7 ?_) | (with_reducible refine u_svs8 ?_))); (first  | fail))
  | ((with_reducible refine And.intro ?_ ?_); focus (first | (walk_at "CLEAN.P12s"; walk_at "OP.P12s"; done) | (walk_at "CLEAN.P12s"; done) | (walk_at "OP.P12s"; done)))
  | fail))
local macro_rules | `(tactic| walk_at "EV.P12s") => `(tactic| repeat' (first | walk_at "EV1.P12s" | fail))
local macro_rules | `(tactic| walk_at "CE.P12s") => `(tactic| try (dsimp only [sset, wipeE, restE, List.map, List.cons_append, List.nil_append, List.append_nil, List.replicate]))
theorem w_step {ls : List (List Str)} {x : Ev} (hl : ls.length ≤ 1000) (hL : ∀ L ∈ ls, L.length ≤ 4000) (q : Q (.new (.lst ((stp x ls).map sD))) [none, none]) : WF fn__law_step [.d (.list (ls.map sD)), .d (ev x)] Q := by
  refine u_fn rfl ?_
  unfold m__law_step
  walk_at "EV.P12s"
  refine u_forM sD (StI ls x) ls ?_ ?_ ?_
  · exact ⟨none, rfl⟩
  · intro d L r e hd hi
    obtain ⟨v3, rfl⟩ := hi
    have hlen := congrArg List.length hd
    rw [List.length_append, List.length_cons] at hlen
    have hm : L ∈ ls := by rw [hd]; simp
    have hL1 := hL L hm
    have h2 := stp_len x d
    have h3 := added_le (stp x d) (lnS L (x, true))
    refine u_g (store_om rfl rfl) ?_
    cases x with
    | some c =>
      have a1 : oAdd (.d (.tuple [.str c])) (.d (sD L)) = some (.d (sD (c :: L))) := by
        rw [o_addT (by simp only [List.length_map, List.length_singleton]; omega)]
        rfl
      have a2 : oAdd (.d (sD L)) (.d (.tuple [.str c])) = some (.d (sD (L ++ [c]))) := by
        rw [o_addT (by simp only [List.length_map, List.length_singleton]; omega)]
        simp [sD]
      have h3' : (added (stp (some c) d) (c :: L)).length ≤ (stp (some c) d).length + 1 := h3
      walk_at "EV.P12s"
      exact ⟨some _, by rw [stp_snoc]; rfl⟩
    | none =>
      have h3' : (added (stp none d) (L.drop 1)).length ≤ (stp none d).length + 1 := h3
      walk_at "EV.P12s"
      exact ⟨some _, by rw [stp_snoc]; rfl⟩
  · intro e hi
    obtain ⟨v3, rfl⟩ := hi
    have ol : oListT [.t (tru1 (stp x ls))] = some (.new (.lst ((stp x ls).map sD))) := by
      simp [oListT, tru1]
    walk_at "EV.P12s"
    exact q
/-- all lanes that the histories of a log give -/
structure All (l : List Str) (es : List Ev) (ls : List (List Str)) : Prop where
  mem : ∀ y, y ∈ ls ↔ ∃ hs, evs hs = es ∧ LN l hs = y
  pos : 0 < ls.length
theorem All.nil (l : List Str) : All l [] [l] := by
  refine ⟨fun y => ?_, by simp⟩
  rw [List.mem_singleton]
  constructor
  · rintro rfl
    exact ⟨[], rfl, rfl⟩
  · rintro ⟨hs, h1, h2⟩
    have : hs = [] := by
      cases hs with
      | nil => rfl
      | cons a r => simp [evs] at h1
    subst this
    exact h2.symm
theorem stp_pos {x : Ev} {ls : List (List Str)} (h : 0 < ls.length) : 0 < (stp x ls).length := by
  cases ls with
  | nil => simp at h
  | cons L r => exact List.length_pos_of_mem ((mem_stp (x := x) (y := lnS L (x, true)) (L :: r)).mpr ⟨L, List.mem_cons_self, true, rfl⟩)
theorem All.step {ls : List (List Str)} {x : Ev} (A : All l es ls) : All l (es ++ [x]) (stp x ls) := by
  refine ⟨fun y => ?_, stp_pos A.pos⟩
  rw [mem_stp]
  constructor
  · rintro ⟨L, h1, b, rfl⟩
    obtain ⟨hs, h2, h3⟩ := (A.mem L).mp h1
    exact ⟨hs ++ [(x, b)], by rw [evs_app, h2]; rfl, by rw [LN_snoc, h3]⟩
  · rintro ⟨hs, h2, h3⟩
    rcases snoc_cases hs with rfl | ⟨r, ⟨z, b⟩, rfl⟩
    · simp [evs] at h2
    · rw [evs_app] at h2
      have h4 := List.append_inj' h2 rfl
      have h5 : z = x := by simpa [evs] using h4.2
      subst h5
      rw [LN_snoc] at h3
      exact ⟨LN l r, (A.mem _).mpr ⟨r, h4.1, rfl⟩, b, h3.symm⟩
theorem Drawn.pre {w m : Nat} (dr : Drawn l es w m) (k : Nat) : Drawn l (es.take k) w m := by
  have e : es = es.take k ++ es.drop k := (List.take_append_drop k es).symm
  have ea : arr es = arr (es.take k) ++ arr (es.drop k) := by
    conv => lhs; rw [e]
    exact List.filterMap_append
  refine ⟨fun x hx => dr.pool x ?_, ?_, fun d r h => dr.room d (r ++ es.drop k) (by
      conv => lhs; rw [e]
      rw [h]
      simp), fun d r h => dr.small d (r ++ es.drop k) (by
      conv => lhs; rw [e]
      rw [h]
      simp), dr.ll, Nat.le_trans (List.length_take_le' ..) dr.el⟩
  · rw [ea]
    rcases List.mem_append.mp hx with h | h
    · exact List.mem_append_left _ h
    · exact List.mem_append_right _ (List.mem_append_left _ h)
  · have nd := dr.nd
    rw [ea, ← List.append_assoc] at nd
    exact (List.nodup_append.mp nd).1
/-- a lane of a history: its cars are known and stand once -/
theorem All.lk {w m : Nat} {ls : List (List Str)} (dr : Drawn l es w m) (A : All l es ls) {y : List Str} (hy : y ∈ ls) : y.Nodup ∧ ∀ x ∈ y, x ∈ l ++ arr es := by
  obtain ⟨hs, rfl, rfl⟩ := (A.mem y).mp hy
  have nd := dr.nd
  have h1 := LN_nd nd hs [] (by simp)
  refine ⟨(List.nodup_append.mp h1).1, ?_⟩
  clear h1
  have : ∀ h r, hs = h ++ r → ∀ x ∈ LN l h, x ∈ l ++ arr (evs h) := by
    intro h
    refine rev_ind (P := fun h => ∀ r, hs = h ++ r → ∀ x ∈ LN l h, x ∈ l ++ arr (evs h)) ?_ ?_ h
    · intro r _ x hx
      exact List.mem_append_left _ hx
    · intro h z ih r e x hx
      have ih' := ih (z :: r) (by rw [e]; simp)
      rw [LN_snoc] at hx
      obtain ⟨a, b⟩ := z
      rw [evs_app]
      have ea : arr (evs h ++ evs [(a, b)]) = arr (evs h) ++ a.toList := arr_snoc (evs h) a
      rw [ea, ← List.append_assoc]
      cases a with
      | none =>
        have : x ∈ LN l h := by
          cases b with
          | true => exact List.mem_of_mem_drop hx
          | false => exact List.dropLast_subset _ hx
        exact List.mem_append_left _ (ih' x this)
      | some c =>
        have : x = c ∨ x ∈ LN l h := by
          cases b with
          | true => simpa [lnS] using hx
          | false =>
            have : x ∈ LN l h ++ [c] := hx
            simpa [or_comm] using this
        rcases this with rfl | h
        · simp
        · exact List.mem_append_left _ (ih' x h)
  exact this hs [] (by simp)
end
end Ol
set_option Elab.async false
set_option linter.all false
set_option maxRecDepth 100000
set_option maxHeartbeats 4000000
/-! plain: a set that can stay is the set of some history's lane -/
namespace Ol
open PySem PySem.Spec PyProof.Rows L2
section
variable {l W P B S : List Str} {es : List Ev}
/-- the cars of W that came, in order -/
def cm (W : List Str) (es : List Ev) : List Str := (arr es).filter fun c => decide (c ∈ W)
theorem cm_none : cm W (es ++ [none]) = cm W es := by
  unfold cm
  rw [arr_snoc]
  simp
theorem cm_in {c : Str} (h : c ∈ W) : cm W (es ++ [some c]) = cm W es ++ [c] := by
  unfold cm
  rw [arr_snoc]
  simp [h]
theorem cm_out {c : Str} (h : c ∉ W) : cm W (es ++ [some c]) = cm W es := by
  unfold cm
  rw [arr_snoc]
  simp [h]
structure Lf (P B S W : List Str) (es : List Ev) (hs : List (Ev × Bool)) (A R : List Str) : Prop where
  e : evs hs = es
  ln : LN (P ++ (B ++ S)) hs = A ++ ((cm W es).reverse ++ B ++ R)
  a : (A.length : Int) = if depN es ≤ (P.length : Int) then (P.length : Int) - depN es else 0
  n : (A.length : Int) + (cm W es).length + B.length + R.length = endN (P ++ (B ++ S)).length es
theorem left_hist : ∀ es : List Ev, (∀ d c r, es = d ++ some c :: r → c ∈ W → (P.length : Int) ≤ depN d) → (∀ d r, es = d ++ r → (B.length : Int) + (cm W d).length ≤ endN (P ++ (B ++ S)).length d) → ∃ hs A R, Lf P B S W es hs A R := by
  refine rev_ind ?_ ?_
  · intro _ _
    refine ⟨[], P, S, rfl, by simp [LN, cm, arr], by simp [depN], ?_⟩
    simp [cm, arr, endN]
    omega
  · intro es x ih h1 h2
    obtain ⟨hs, A, R, L⟩ := ih (fun d c r e => h1 d c (r ++ [x]) (by rw [e]; simp)) (fun d r e => h2 d (r ++ [x]) (by rw [e]; simp))
    have r0 := h2 (es ++ [x]) [] (by simp)
    have la := L.a
    have lnn := L.n
    cases x with
    | none =>
      rw [cm_none, endN_snoc] at r0
      have d1 : dl none = -1 := rfl
      have d2 : depN (es ++ [none]) = depN es + 1 := depN_snoc _ _
      rw [d1] at r0
      cases A with
      | cons a A =>
        refine ⟨hs ++ [(none, true)], A, R, by rw [evs_app, L.e]; rfl, ?_, ?_, ?_⟩
        · rw [LN_snoc, L.ln, cm_none]; rfl
        · rw [d2]
          rw [List.length_cons] at la
          split at la <;> split <;> omega
        · rw [cm_none, endN_snoc, d1]
          rw [List.length_cons] at lnn
          omega
      | nil =>
        rw [List.length_nil] at la lnn
        have hR : R ≠ [] := fun z => by
          subst z
          rw [List.length_nil] at lnn
          omega
        refine ⟨hs ++ [(none, false)], [], R.dropLast, by rw [evs_app, L.e]; rfl, ?_, ?_, ?_⟩
        · rw [LN_snoc, L.ln, cm_none]
          show ([] ++ ((cm W es).reverse ++ B ++ R)).dropLast = _
          rw [List.nil_append, List.nil_append, List.dropLast_append_of_ne_nil hR]
        · rw [d2, List.length_nil]
          split at la <;> split <;> omega
        · rw [cm_none, endN_snoc, d1, List.length_dropLast, List.length_nil]
          have := List.length_pos_iff.mpr hR
          omega
    | some c =>
      have d1 : dl (some c) = 1 := rfl
      have d2 : depN (es ++ [some c]) = depN es + 0 := depN_snoc _ _
      by_cases hc : c ∈ W
      · have hp := h1 es c [] (by simp) hc
        have hA : A = [] := by
          refine List.length_eq_zero_iff.mp ?_
          split at la <;> omega
        subst hA
        rw [List.length_nil] at la lnn
        refine ⟨hs ++ [(some c, true)], [], R, by rw [evs_app, L.e]; rfl, ?_, ?_, ?_⟩
        · rw [LN_snoc, L.ln, cm_in hc]
          show c :: _ = _
          simp
        · rw [d2, List.length_nil]
          split at la <;> split <;> omega
        · rw [cm_in hc, endN_snoc, d1, List.length_append, List.length_nil]
          simp only [List.length_singleton]
          omega
      · refine ⟨hs ++ [(some c, false)], A, R ++ [c], by rw [evs_app, L.e]; rfl, ?_, ?_, ?_⟩
        · rw [LN_snoc, L.ln, cm_out hc]
          show _ ++ [c] = _
          simp
        · rw [d2, Int.add_zero]
          exact la
        · rw [cm_out hc, endN_snoc, d1, List.length_append]
          simp only [List.length_singleton]
          omega
/-- a history seen in a mirror -/
def flp (hs : List (Ev × Bool)) : List (Ev × Bool) := hs.map fun p => (p.1, !p.2)
theorem evs_flp (hs : List (Ev × Bool)) : evs (flp hs) = evs hs := by simp [evs, flp]
theorem LN_flp (l : List Str) : ∀ hs : List (Ev × Bool), LN l.reverse (flp hs) = (LN l hs).reverse := by
  refine rev_ind rfl ?_
  intro hs x ih
  obtain ⟨e, b⟩ := x
  have hf : flp (hs ++ [(e, b)]) = flp hs ++ [(e, !b)] := by simp [flp]
  rw [hf, LN_snoc, LN_snoc, ih]
  generalize LN l hs = L
  cases e with
  | some c => cases b <;> simp [lnS]
  | none => cases b <;> simp [lnS, List.drop_one, List.tail_reverse, List.dropLast_reverse]
theorem mir_hist (h : ∃ hs, evs hs = es ∧ (LN l.reverse hs).Perm W) : ∃ hs, evs hs = es ∧ (LN l hs).Perm W := by
  obtain ⟨hs, h1, h2⟩ := h
  refine ⟨flp hs, by rw [evs_flp, h1], ?_⟩
  have := LN_flp l.reverse hs
  rw [List.reverse_reverse] at this
  rw [this]
  exact (List.reverse_perm _).trans h2
structure Pbs (P B S W : List Str) (es : List Ev) : Prop where
  p : ∀ c ∈ P, c ∉ W
  b : ∀ c ∈ B, c ∈ W
  s : ∀ c ∈ S, c ∉ W
theorem part_hist (nd : (P ++ (B ++ S) ++ arr es).Nodup) (ndW : W.Nodup) (sub : ∀ x ∈ W, x ∈ P ++ (B ++ S) ++ arr es) (z : Pbs P B S W es) (len : (W.length : Int) = endN (P ++ (B ++ S)).length es)
    (h1 : ∀ d c r, es = d ++ some c :: r → c ∈ W → (P.length : Int) ≤ depN d) (h2 : ∀ d r, es = d ++ r → (B.length : Int) + (cm W d).length ≤ endN (P ++ (B ++ S)).length d) : ∃ hs, evs hs = es ∧ (LN (P ++ (B ++ S)) hs).Perm W := by
  obtain ⟨hs, A, R, L⟩ := left_hist es h1 h2
  have hm : ∀ x, x ∈ (cm W es).reverse ++ B ↔ x ∈ W := fun x => by
    rw [List.mem_append, List.mem_reverse]
    unfold cm
    rw [List.mem_filter, decide_eq_true_eq]
    constructor
    · rintro (⟨_, h⟩ | h)
      · exact h
      · exact z.b x h
    · intro h
      rcases List.mem_append.mp (sub x h) with k | k
      · rcases List.mem_append.mp k with k | k
        · exact absurd h (z.p x k)
        · rcases List.mem_append.mp k with k | k
          · exact .inr k
          · exact absurd h (z.s x k)
      · exact .inl ⟨k, h⟩
  have nd2 : ((cm W es).reverse ++ B).Nodup := by
    have n1 := List.nodup_append.mp nd
    have n2 := List.nodup_append.mp n1.1
    have n3 := List.nodup_append.mp n2.2.1
    refine List.nodup_append.mpr ⟨(List.reverse_perm _).nodup_iff.mpr (n1.2.1.sublist List.filter_sublist), n3.1, fun a ha b hb e => ?_⟩
    subst e
    rw [List.mem_reverse] at ha
    exact n1.2.2 a (List.mem_append_right _ (List.mem_append_left _ hb)) a (List.mem_filter.mp ha).1 rfl
  have pm : ((cm W es).reverse ++ B).Perm W := (List.perm_ext_iff_of_nodup nd2 ndW).mpr hm
  have ln := pm.length_eq
  rw [List.length_append, List.length_reverse] at ln
  have n := L.n
  have eA : A = [] := List.length_eq_zero_iff.mp (by omega)
  have eR : R = [] := List.length_eq_zero_iff.mp (by omega)
  refine ⟨hs, L.e, ?_⟩
  rw [L.ln, eA, eR, List.nil_append, List.append_nil]
  exact pm
theorem cm_len (W : List Str) : ∀ d : List Ev, (d.filter (inC W)).length = (cm W d).length := by
  refine rev_ind rfl ?_
  intro d x ih
  rw [List.filter_append, List.length_append, ih]
  cases x with
  | none => rw [cm_none]; simp [inC]
  | some c =>
    by_cases h : c ∈ W
    · rw [cm_in h]; simp [inC, h]
    · rw [cm_out h]; simp [inC, h]
/-- a set that can stay is the set of a history's lane -/
theorem set_hist {a b : Nat} (nd : (l ++ arr es).Nodup) (ndW : W.Nodup) (sub : ∀ x ∈ W, x ∈ l ++ arr es) (V : Vb l es a b W) : ∃ hs, evs hs = es ∧ (LN l hs).Perm W := by
  have ab := V.ab
  have bl := V.bl
  have at1 : ∀ {i : Nat} {c : Str}, l[i]? = some c → (c ∈ W ↔ a ≤ i ∧ i < b) := fun {i c} h => by
    constructor
    · intro hc
      have := mem_plc h hc
      rw [V.plc, List.mem_range'_1] at this
      omega
    · intro hi
      have hm : i ∈ plc l W := by
        rw [V.plc, List.mem_range'_1]
        omega
      obtain ⟨c', h1, h2⟩ := plc_mem hm
      rw [h] at h1
      cases h1
      exact h2
  obtain ⟨P, hP⟩ : ∃ P, P = l.take a := ⟨_, rfl⟩
  obtain ⟨B, hB⟩ : ∃ B, B = (l.drop a).take (b - a) := ⟨_, rfl⟩
  obtain ⟨S, hS⟩ : ∃ S, S = l.drop b := ⟨_, rfl⟩
  have hl : l = P ++ (B ++ S) := by
    have e : S = (l.drop a).drop (b - a) := by rw [hS, List.drop_drop]; congr 1; omega
    rw [hP, hB, e, List.take_append_drop, List.take_append_drop]
  have z1 : ∀ c ∈ P, c ∉ W := fun c hc hw => by
    rw [hP] at hc
    obtain ⟨i, hi⟩ := List.mem_iff_getElem?.mp hc
    rw [List.getElem?_take] at hi
    split at hi
    · have := (at1 hi).mp hw
      omega
    · cases hi
  have z2 : ∀ c ∈ B, c ∈ W := fun c hc => by
    rw [hB] at hc
    obtain ⟨i, hi⟩ := List.mem_iff_getElem?.mp hc
    rw [List.getElem?_take] at hi
    split at hi
    · rw [List.getElem?_drop] at hi
      exact (at1 hi).mpr (by omega)
    · cases hi
  have z3 : ∀ c ∈ S, c ∉ W := fun c hc hw => by
    rw [hS] at hc
    obtain ⟨i, hi⟩ := List.mem_iff_getElem?.mp hc
    rw [List.getElem?_drop] at hi
    have := (at1 hi).mp hw
    omega
  have lP : P.length = a := by rw [hP, List.length_take]; omega
  have lB : B.length = b - a := by rw [hB, List.length_take, List.length_drop]; omega
  have lS : S.length = l.length - b := by rw [hS, List.length_drop]
  have side : ∀ d c r, es = d ++ some c :: r → c ∈ W → outs l a b ≤ depN d := fun d c r e hc => by
    have h1 : es[d.length]? = some (some c) := by rw [e]; simp
    have h2 := V.side _ (mem_posP h1 hc)
    rw [e, List.take_left] at h2
    exact h2
  have room : ∀ d r, es = d ++ r → (B.length : Int) + (cm W d).length ≤ endN l.length d := fun d r e => by
    have hd : d.length ≤ es.length := by rw [e, List.length_append]; omega
    have h1 := V.room d.length hd
    rw [← stay_cnt hd] at h1
    have h2 : es.take d.length = d := by rw [e, List.take_left]
    rw [h2, cm_len] at h1
    rw [lB]
    exact h1
  by_cases hs : (P.length : Int) ≤ outs l a b
  · rw [hl] at nd sub room
    have ln := V.len
    rw [hl] at ln
    rw [hl]
    exact part_hist nd ndW sub ⟨z1, z2, z3⟩ ln (fun d c r e hc => Int.le_trans hs (side d c r e hc)) room
  · have hs2 : (S.length : Int) ≤ outs l a b := by
      unfold outs at hs ⊢
      rw [lP] at hs
      rw [lS]
      have hz := V.z
      split at hs
      · rename_i h1
        split at hs
        · rename_i h2
          rw [if_pos h1, if_pos h2]
          omega
        · omega
      · have := hz (by omega)
        omega
    refine mir_hist ?_
    have hr : l.reverse = S.reverse ++ (B.reverse ++ P.reverse) := by rw [hl]; simp
    have hm : ∀ x, x ∈ S.reverse ++ (B.reverse ++ P.reverse) ++ arr es ↔ x ∈ l ++ arr es := fun x => by
      rw [← hr]
      simp
    have hn : (S.reverse ++ (B.reverse ++ P.reverse)).length = l.length := by rw [← hr, List.length_reverse]
    rw [hr]
    refine part_hist ?_ ndW (fun x hx => (hm x).mpr (sub x hx)) ⟨fun c hc => z3 c (List.mem_reverse.mp hc), fun c hc => z2 c (List.mem_reverse.mp hc), fun c hc => z1 c (List.mem_reverse.mp hc)⟩ ?_ ?_ ?_
    · rw [← hr]
      refine (List.Perm.nodup_iff ?_).mpr nd
      exact (List.reverse_perm l).append_right _
    · rw [hn]; exact V.len
    · intro d c r e hc
      rw [List.length_reverse]
      exact Int.le_trans hs2 (side d c r e hc)
    · intro d r e
      rw [List.length_reverse, hn]
      exact room d r e
/-- only the cars of a set matter -/
theorem plc_perm {V : List Str} (h : V.Perm W) : plc l V = plc l W := by
  unfold plc
  congr 2
  funext p
  exact decide_eq_decide.mpr h.mem_iff
theorem posP_perm {V : List Str} (h : V.Perm W) : posP es V = posP es W := by
  unfold posP
  congr 2
  funext p
  cases hp : p.1 with
  | none => simp [inC]
  | some c => simp [inC, h.mem_iff]
theorem Vb.perm {V : List Str} {a b : Nat} (v : Vb l es a b V) (h : V.Perm W) : Vb l es a b W :=
  ⟨v.ab, v.bl, v.z, by rw [← plc_perm h]; exact v.plc, by rw [← posP_perm h]; exact v.side, by rw [← h.length_eq]; exact v.len, by rw [← posP_perm h]; exact v.room⟩
end
end Ol
set_option Elab.async false
set_option linter.all false
set_option maxRecDepth 100000
set_option maxHeartbeats 4000000
/-! the law's _law_few -/
namespace Ol
open PySem PySem.Spec PyProof.Rows L2
theorem rangeD_at {n i : Nat} {x : D} (h : (rangeD 0 n)[i]? = some x) : i < n ∧ x = .int (i : Nat) := by
  unfold rangeD at h
  rw [List.getElem?_map] at h
  have h1 : i < n := by
    by_cases h1 : i < n
    · exact h1
    · rw [List.getElem?_eq_none (by simpa using h1)] at h; cases h
  rw [List.getElem?_range h1] at h
  exact ⟨h1, by simpa using h.symm⟩
section
variable {Q : PV → List (Option Ob) → Prop} {l : List Str} {es : List Ev}
theorem w_builtG {n : Nat} {a b c : Int} (h : Bi n a b c) (hn : n ≤ 1000000) (q : ∀ l es a' c', Drawn l es 4 9 → Bi (n + 600) a' b c' → Q (.tup [.d (sD l), .new (.lst (es.map ev))]) [some (bgO a' b c'), none, none]) : WF fn__law_built [.own true (bgO a b c), .d (.int 4), .d (.int 9)] Q := w_built (w := 4) (m := 9) h hn (by omega) (by omega) q
structure FwI (a b c B : Int) (l : List Str) (es : List Ev) (i : Nat) (e : Env) : Prop where
  ex : ∃ (ls : List (List Str)) (v5 v8 : Option D), e = [some (.own true (bgO a b c)), some (.d (.int 4)), some (.d (.int 9)), some (.d (.int B)), some (.d (.list (ls.map sD))), v5.map .d, some (.d (sD l)), some (.own false (.lst (es.map ev))), v8.map .d] ∧ All l (es.take i) ls ∧ ls.length ≤ 201
local macro_rules | `(tactic| walk_at "SD.P06t") => `(tactic| first
  | omega
  | (simp only [List.length_map, List.length_append, List.length_cons, List.length_nil, List.length_drop, List.length_take, List.length_dropLast, List.length_singleton, List.length_eraseIdx, List.length_zipIdx, List.length_range, List.length_range', List.length_reverse, List.length_set]; omega)
  | (with_reducible assumption))
local macro_rules | `(tactic| walk_at "CLEAN.P06t") => `(tactic| dsimp only [rd, rds, sget, sset, fz, fzs, fzP, flt, store, stores, svOf, comps, mNames, back, backs, Ob.rv, Ob.kind, pars, par, fzIO, putOuts, outsOf, okSlots, pick, wipeE, restE, frT, List.map, List.append_nil, List.nil_append, List.cons_append, List.replicate, Option.bind_some, bD, iD, if_true, reduceIte, List.getElem?_cons_zero, List.getElem?_cons_succ])
local macro_rules | `(tactic| walk_at "CL.P06t") => `(tactic| try (dsimp only [rd, rds, sget, sset, fz, fzs, fzP, flt, store, stores, svOf, comps, mNames, back, backs, Ob.rv, Ob.kind, pars, par, fzIO, putOuts, outsOf, okSlots, pick, wipeE, restE, frT, Option.map_some, List.map, List.append_nil, List.nil_append, List.cons_append, List.replicate, Option.bind_some, bD, iD, if_true, reduceIte, List.getElem?_cons_zero, List.getElem?_cons_succ]))
local macro_rules | `(tactic| walk_at "OP.P06t") => `(tactic| first
  | (with_reducible assumption)
  | (apply_rules (transparency := .reducible) (maxDepth := 1) only [in_tup, in_lst, in_set, in_dic, ix_list0, ix_list1, ix_tup0, ix_tup1, o_eqI, o_neI, ix_evI, ix_evC, ix_evO, o_eqII, o_eqOI, o_eqIO, o_eqOO, o_neNilI, o_eqNilI, o_rev, o_isB, strsOf_strs])
  | ((with_reducible refine o_addS ?_); walk_at "SD.P06t")
  | ((with_reducible refine o_addT ?_); walk_at "SD.P06t")
  | ((with_reducible refine o_addL ?_); walk_at "SD.P06t")
  | ((with_reducible refine f_append ?_); walk_at "SD.P06t")
  | ((with_reducible refine o_div ?_ ?_) <;> walk_at "SD.P06t")
  | ((with_reducible refine o_mod ?_); walk_at "SD.P06t")
  | (with_reducible refine o_eqS (by first | assumption | exact ok_in | exact ok_out) (by first | assumption | exact ok_in | exact ok_out))
  | ((with_reducible refine o_ixS ?_ ?_) <;> walk_at "SD.P06t")
  | ((with_reducible refine o_ixT ?_ ?_) <;> walk_at "SD.P06t")
  | ((with_reducible refine f_setS ?_ ?_) <;> walk_at "SD.P06t")
  | ((with_reducible refine o_minL ?_); walk_at "SD.P06t")
  | ((with_reducible refine o_neNil ?_); (with_reducible assumption))
  | ((with_reducible refine o_eqNil ?_); (with_reducible assumption))
  | ((with_reducible refine f_popAt ?_ ?_ ?_) <;> walk_at "SD.P06t")
  | ((with_reducible assumption))
  | ((fail_if_success (with_reducible apply may_pop)); exact rfl)
  | (exact store_om rfl rfl)
  | (exact store_oo rfl rfl)
  | walk_at "SD.P06t")
local macro_rules | `(tactic| walk_at "EV1.P06t") => `(tactic| (first
  | (apply_rules (transparency := .reducible) (maxDepth := 500) only [u_thn, u_thnR, u_turn, u_turnR, u_finN, u_finR, u_inx, u_seq, u_ifS, u_skip, u_asgF, u_asg, u_asgT, u_idx, u_listR, u_ssI, u_ss, u_drop, u_ret, u_retN, u_retT, u_par, u_setIx, u_for, u_break, u_cont, u_c, u_newT, u_m1, u_m2, u_nil, u_cons, u_mB, u_tup, u_lst, u_test, u_tru, u_yes, u_andT, u_orT, u_notT, u_and, u_or, u_not, u_if, u_chain, u_noP, u_P, u_sl, u_meth, u_isi, u_isi2, u_call, u_callK, u_iter, u_enum, u_range1, u_range2, sp_tt, sp_ff, Exists.intro])
  | ((with_reducible refine u_mayVar ?_); first | (refine u_var rfl ?_) | (refine u_varO rfl ?_))
  | ((with_reducible refine u_mayWG ?_); first | (refine u_g (by first | (walk_at "CLEAN.P06t"; exact rfl) | (walk_at "CLEAN.P06t"; done) | exact store_om rfl rfl | exact store_oo rfl rfl) ?_) | (refine u_gs (by first | (walk_at "CLEAN.P06t"; exact rfl) | (walk_at "CLEAN.P06t"; done)) ?_))
  | ((with_reducible refine sp_dt ?_ ?_); focus (first | assumption | omega))
  | ((with_reducible refine sp_df ?_ ?_); focus (first | assumption | omega))
  | ((with_reducible refine sp_et ?_ ?_); focus (first | assumption | omega))
  | ((with_reducible refine sp_ndt ?_ ?_); focus (first | assumption | omega))
  | ((with_reducible refine sp_ndf ?_ ?_); focus (first | assumption | omega))
  | ((with_reducible refine sp_ef ?_ ?_); focus (first | assumption | omega))
  | (with_reducible refine sp_t (by assumption) ?_)
  | (with_reducible refine sp_f (by assumption) ?_)
  | (with_reducible refine sp_nt (by first | assumption | rfl) ?_)
  | (with_reducible refine sp_nf (by first | assumption | rfl) ?_)
  | (with_reducible refine sp_d (fun hb => ?_) (fun hb => ?_))
  | (with_reducible refine sp_nd (fun hb => ?_) (fun hb => ?_))
  | (with_reducible refine sp_e (fun hb => ?_) (fun hb => ?_))
  | (with_reducible refine sp_ne (fun hb => ?_) (fun hb => ?_))
  | (with_reducible refine sp_xf (fun hb => ?_) (fun hb => ?_))
  | (with_reducible refine sp_xt (fun hb => ?_) (fun hb => ?_))
  | (with_reducible refine sp_b (fun hb => ?_) (fun hb => ?_))
  | ((with_reducible refine u_mayWF ?_); (try (first | (with_reducible refine u_svs1 ?_) | (with_reducible refine u_svs2 ?_) | (with_reducible refine u_svs3 ?_) | (with_reducible refine u_svs4 ?_) | (with_reducible refine u_svs5 ?_) | (with_reducible refine u_svs6 ?_) | (with_reducible refine u_svs7 ?_) | (with_reducible refine u_svs8 ?_))); (first | ((with_reducible refine w_builtG (by assumption) ?_ ?_); (walk_at "SD.P06t"); intro l es a1 c1 dr bi) | fail))
  | ((with_reducible refine And.intro ?_ ?_); focus (first | (walk_at "CLEAN.P06t"; walk_at "OP.P06t"; done) | (walk_at "CLEAN.P06t"; done) | (walk_at "OP.P06t"; done)))
  | fail))
local macro_rules | `(tactic| walk_at "EV.P06t") => `(tactic| repeat' (first | walk_at "EV1.P06t" | fail))
local macro_rules | `(tactic| walk_at "CE.P06t") => `(tactic| try (dsimp only [sset, wipeE, restE, List.map, List.cons_append, List.nil_append, List.append_nil, List.replicate]))
theorem w_few {n : Nat} {a b c B : Int} (h : Bi n a b c) (hn : n ≤ 1000000) (hB : 0 ≤ B ∧ B ≤ 200) (q : ∀ l es ls a' c', Drawn l es 4 9 → All l es ls → ls.length ≤ 201 → Bi (n + 600) a' b c' → Q (.tup [.d (sD l), .new (.lst (es.map ev)), .d (.list (ls.map sD))]) [some (bgO a' b c'), none, none, none]) : WF fn__law_few [.own true (bgO a b c), .d (.int 4), .d (.int 9), .d (.int B)] Q := by
  refine u_fn rfl ?_
  unfold m__law_few
  walk_at "EV.P06t"
  rename_i l es a1 c1 dr bi
  have hl := dr.ll
  have he := dr.el
  have hm : (es.map ev).length = es.length := List.length_map _
  refine ⟨by omega, ?_⟩
  refine u_forI (FwI a1 b c1 B l es) _ ?_ ?_ ?_
  · exact ⟨[l], none, none, rfl, All.nil l, by simp⟩
  · intro i x e hx hi
    obtain ⟨hi1, rfl⟩ := rangeD_at hx
    obtain ⟨ls, v5, v8, rfl, A, hls⟩ := hi
    have hie : i < es.length := by omega
    have dri := dr.pre i
    have hll : ∀ L ∈ ls, L.length ≤ 4000 := fun L hL => by
      have lk := All.lk dri A hL
      have h3 := nodup_le lk.1 lk.2
      have h4 := arr_len (es.take i)
      have h5 := dri.el
      rw [List.length_append] at h3
      omega
    have ix : oIx (.d (.list (es.map ev))) (.d (.int (i : Nat))) = some (.d (ev es[i])) := ix_nat _ i _ (by rw [List.getElem?_map, List.getElem?_eq_getElem hie]; rfl)
    have et : es.take (i + 1) = es.take i ++ [es[i]] := by rw [List.take_add_one, List.getElem?_eq_getElem hie]; rfl
    refine u_g (store_om rfl rfl) ?_
    walk_at "EV.P06t"
    refine w_step (by omega) hll ?_
    walk_at "EV.P06t"
    · rename_i hb
      rw [cut_to _ _ (by omega) (by omega), Int.toNat_natCast, ← List.map_take]
      exact q l (es.take i) ls a1 c1 dri A hls bi
    · rename_i hb
      have A2 := A.step (x := es[i])
      rw [← et] at A2
      refine ⟨stp es[i] ls, some _, some _, rfl, A2, ?_⟩
      rw [List.length_map] at hb
      omega
  · intro e hi
    obtain ⟨ls, v5, v8, rfl, A, hls⟩ := hi
    rw [show (rangeD 0 (((es.map ev).length : Nat) : Int).toNat).length = es.length by rw [hm, Int.toNat_natCast]; simp [rangeD], List.take_length] at A
    walk_at "EV.P06t"
    exact q l es ls a1 c1 dr A hls bi
end
end Ol
set_option Elab.async false
set_option linter.all false
set_option maxRecDepth 100000
set_option maxHeartbeats 4000000
/-! repr of a log; dict of pairs -/
namespace Ol
open PySem PySem.Spec PyProof.Rows L2
theorem textFrom_le : ∀ (ts : List Str) (k : Nat) (acc : Str), (textFrom k acc ts).length ≤ acc.length + piled ts
  | [], k, acc => by show acc.length ≤ _; omega
  | t :: r, k, acc => by
    have ih := textFrom_le r (k + 1) (acc ++ (if k > 0 then ", " else "" : String) ++ t)
    have e : (acc ++ (if k > 0 then ", " else "" : String) ++ t).length = acc.length + (if k > 0 then 2 else 0) + t.length := by
      rw [strLen_append, strLen_append]
      split <;> rfl
    rw [e] at ih
    rw [piled_cons]
    have g : textFrom k acc (t :: r) = textFrom (k + 1) (acc ++ (if k > 0 then ", " else "" : String) ++ t) r := rfl
    have hle : (if k > 0 then 2 else 0) ≤ 2 := by split <;> omega
    rw [g]
    omega
theorem listText_le (ts : List Str) : (listText ts).length ≤ piled ts + 2 := by
  unfold listText
  rw [strLen_append]
  have h := textFrom_le ts 0 "["
  have e1 : (("[" : String) : Str).length = 1 := rfl
  have e2 : (("]" : String) : Str).length = 1 := rfl
  rw [e2]
  omega
theorem tupleText_le (ts : List Str) : (tupleText ts).length ≤ piled ts + 3 := by
  unfold tupleText
  rw [strLen_append, strLen_append]
  have e1 : (("(" : String) : Str).length = 1 := rfl
  have e3 : (((if ts.length == 1 then ",)" else ")" : String) : Str)).length ≤ 2 := by split <;> decide +kernel
  rw [e1]
  by_cases h : ts = []
  · subst h
    have : (Str.join ", " []).length = 0 := rfl
    omega
  · have := join_length_add ts h
    omega
theorem car_len {c : Str} (h : carB c = true) : c.length ≤ 4 := by
  unfold carB at h
  simp only [Bool.and_eq_true, decide_eq_true_eq] at h
  exact h.1.2
theorem rep_len {c : Str} (h : PyData.strOk c = true) : (reprText c).length ≤ 10 * c.length + 2 := by
  refine StrLaws.reprText_len c fun x hx => ?_
  unfold PyData.strOk at h
  have := Array.all_eq_true_iff_forall_mem.mp h x (by simpa using hx)
  have := of_decide_eq_true this
  omega
theorem ok_in' : PyData.strOk ("in" : Str) = true := ok_in
theorem ev_shown {x : Ev} (h : ∀ c, x = some c → carB c = true ∧ PyData.strOk c = true) : (ev x).shown.length ≤ 80 := by
  cases x with
  | none =>
    have e : (ev none).shown = tupleText [reprText "out"] := rfl
    rw [e]
    have h1 := tupleText_le [reprText ("out" : Str)]
    have h2 := rep_len ok_out
    rw [piled_cons, piled_nil] at h1
    have : ("out" : Str).length = 3 := rfl
    omega
  | some c =>
    have e : (ev (some c)).shown = tupleText [reprText "in", reprText c] := rfl
    rw [e]
    obtain ⟨c1, c2⟩ := h c rfl
    have h1 := tupleText_le [reprText ("in" : Str), reprText c]
    have h2 := rep_len ok_in
    have h3 := rep_len c2
    have h4 := car_len c1
    rw [piled_cons, piled_cons, piled_nil] at h1
    have : ("in" : Str).length = 2 := rfl
    omega
theorem evs_shown : ∀ {es : List Ev}, (∀ c, some c ∈ es → carB c = true ∧ PyData.strOk c = true) → piled (PyData.shownAll (es.map ev)) ≤ 82 * es.length ∧ PyData.showableAll (es.map ev) = true ∧ PyData.depthAll (es.map ev) ≤ 1 ∧ PyData.hasDictAll (es.map ev) = false
  | [], _ => ⟨by simp [PyData.shownAll, piled_nil], rfl, Nat.zero_le _, rfl⟩
  | x :: es, h => by
    obtain ⟨i1, i2, i3, i4⟩ := evs_shown (es := es) fun c hc => h c (List.mem_cons_of_mem _ hc)
    have h1 := ev_shown (x := x) fun c hc => h c (by rw [hc]; exact List.mem_cons_self)
    refine ⟨?_, ?_, ?_, ?_⟩
    · rw [List.map_cons, PyData.shownAll, piled_cons, List.length_cons]
      omega
    · rw [List.map_cons, PyData.showableAll, i2]
      cases x <;> rfl
    · rw [List.map_cons, PyData.depthAll]
      have : (ev x).depth ≤ 1 := by cases x <;> simp [ev, PyData.depth, PyData.depthAll]
      omega
    · rw [List.map_cons, PyData.hasDictAll, i4]
      cases x <;> rfl
theorem log_shown {es : List Ev} (h : ∀ c, some c ∈ es → carB c = true ∧ PyData.strOk c = true) (hl : es.length ≤ 200) : okShow (lg es) = true := by
  obtain ⟨h1, h2, h3, h4⟩ := evs_shown h
  have e1 : (lg es).shown = listText (PyData.shownAll (es.map ev)) := by simp only [PyData.shown]
  have e2 : (lg es).showable = PyData.showableAll (es.map ev) := by simp only [PyData.showable]
  have e3 : (lg es).hasDict = PyData.hasDictAll (es.map ev) := by simp only [PyData.hasDict]
  have e4 : (lg es).depth = PyData.depthAll (es.map ev) + 1 := by simp only [PyData.depth]
  have h5 := listText_le (PyData.shownAll (es.map ev))
  unfold okShow
  rw [e1, e2, e3, e4, h2, h4]
  simp only [Bool.true_and, Bool.not_false, Bool.and_eq_true, decide_eq_true_eq]
  omega
theorem o_repr {es : List Ev} (h : okShow (lg es) = true) : oRepr [.d (lg es)] = some (.d (.str (lg es).shown)) := by
  show (if okShow (lg es) = true then _ else _) = _
  rw [if_pos h]
theorem o_neSS {x : Str} : oNeS (.d (.str x)) (.d (.str x)) = some (.d (.bool false)) := by
  show some (bD (!(x == x))) = _
  simp
/-! dict(pairs) -/
theorem has_put {kvs : List (List Str × D)} {k j : List Str} {d : D} : hasS (putS kvs k d) j = (hasS kvs j || decide (k = j)) := by
  unfold putS
  by_cases c : hasS kvs k = true
  · rw [if_pos c]
    have e : hasS (kvs.map fun q => if q.1 = k then (q.1, d) else q) j = hasS kvs j := by
      unfold hasS
      rw [List.any_map]
      congr 1
      funext q
      simp only [Function.comp_apply]
      split <;> rfl
    rw [e]
    by_cases z : k = j
    · subst z; rw [c]; rfl
    · simp [z]
  · rw [if_neg c]
    unfold hasS
    rw [List.any_append]
    simp
theorem has_merge : ∀ {ps acc : List (List Str × D)} {j : List Str}, hasS (mergeS acc ps) j = (hasS acc j || hasS ps j)
  | [], acc, j => by simp [mergeS, hasS]
  | q :: r, acc, j => by
    have e : hasS (q :: r) j = (decide (q.1 = j) || hasS r j) := rfl
    show hasS (mergeS (putS acc q.1 q.2) r) j = _
    rw [has_merge, has_put, e, Bool.or_assoc]
theorem pairs_tru : ∀ ls : List (List Str), pairsOf (ls.map fun L => .tuple [sD L, .bool true]) = some (tru1 ls)
  | [] => rfl
  | L :: r => by
    have e : pairOf (.tuple [sD L, .bool true]) = some (L, .bool true) := by
      show (strsOf (L.map .str)).bind _ = _
      rw [strsOf_strs]
      rfl
    rw [List.map_cons, pairsOf, e, Option.bind_some, pairs_tru r]
    rfl
def kn (ls : List (List Str)) : List (List Str × D) := mergeS [] (tru1 ls)
theorem o_dictT {ls : List (List Str)} : oDictT [.d (.list (ls.map fun L => .tuple [sD L, .bool true]))] = some (.new (.dit (kn ls))) := by
  show (pairsOf _).bind _ = _
  rw [pairs_tru]
  rfl
theorem o_inT {ls : List (List Str)} {L : List Str} : oInT false (.d (sD L)) (.t (kn ls)) = some (.d (.bool (decide (L ∈ ls)))) := by
  show (strsOf (L.map .str)).bind _ = _
  rw [strsOf_strs, Option.bind_some]
  unfold kn
  rw [has_merge, has_tru]
  simp [hasS]
end Ol
set_option Elab.async false
set_option linter.all false
set_option maxRecDepth 100000
set_option maxHeartbeats 4000000
/-! valid logs; what is asked of a set -/
namespace Ol
open PySem PySem.Spec PyProof.Rows L2
theorem pool_car {x : Str} (h : x ∈ poolL) : carB x = true ∧ PyData.strOk x = true := by
  have := List.all_eq_true.mp pool_ok x h
  simpa using this
/-- a valid log of known cars -/
structure Vl (l : List Str) (es : List Ev) : Prop where
  car : ∀ x ∈ l ++ arr es, carB x = true
  ok : ∀ x ∈ l ++ arr es, PyData.strOk x = true
  nd : (l ++ arr es).Nodup
  room : ∀ d r, es = d ++ none :: r → 0 < endN l.length d
  ll : l.length ≤ 40
  el : es.length ≤ 200
/-- a set of known cars -/
structure Lk (l : List Str) (es : List Ev) (cs : List Str) : Prop where
  nd : cs.Nodup
  sub : ∀ x ∈ cs, x ∈ l ++ arr es
section
variable {l S line : List Str} {es : List Ev} {ls : List (List Str)} {Q : PV → List (Option Ob) → Prop}
theorem Drawn.vl (dr : Drawn l es 4 9) : Vl l es := ⟨fun x hx => (pool_car (dr.pool x hx)).1, fun x hx => (pool_car (dr.pool x hx)).2, dr.nd, dr.room, Nat.le_trans dr.ll (by decide), Nat.le_trans dr.el (by decide)⟩
theorem Vl.snoc (V : Vl l es) {c : Str} (hc : carB c = true ∧ PyData.strOk c = true) (hn : c ∉ l ++ arr es) (hl : es.length < 200) : Vl l (es ++ [some c]) := by
  have ea : arr (es ++ [some c]) = arr es ++ [c] := arr_snoc es (some c)
  have ms : ∀ x ∈ l ++ arr (es ++ [some c]), x ∈ l ++ arr es ∨ x = c := fun x hx => by
    rw [ea, ← List.append_assoc] at hx
    rcases List.mem_append.mp hx with h | h
    · exact .inl h
    · exact .inr (List.mem_singleton.mp h)
  refine ⟨fun x hx => ?_, fun x hx => ?_, ?_, room_snoc V.room (fun h => by cases h), V.ll, by simp; omega⟩
  · rcases ms x hx with h | rfl
    · exact V.car x h
    · exact hc.1
  · rcases ms x hx with h | rfl
    · exact V.ok x h
    · exact hc.2
  · rw [ea, ← List.append_assoc]
    exact List.nodup_append.mpr ⟨V.nd, by simp, fun a ha b hb e => by
      rw [List.mem_singleton.mp hb] at e
      exact hn (e ▸ ha)⟩
theorem Vl.ln (V : Vl l es) (k : Lk l es line) : Ln l es line := ⟨V.nd, V.ok, Nat.le_trans V.ll (by decide), Nat.le_trans V.el (by decide), k.nd, k.sub⟩
theorem Vl.log (V : Vl l es) : LogOk l es := ⟨fun c hc => V.car c (List.mem_append_right _ (List.mem_filterMap.mpr ⟨some c, hc, rfl⟩)), V.nd, V.room, Nat.le_trans V.el (by decide)⟩
theorem Vl.fl (V : Vl l es) : (l ++ arr es).length ≤ 240 := by
  have := V.ll
  have := V.el
  have := arr_len es
  rw [List.length_append]; omega
theorem Vl.carsOk (V : Vl l es) (k : Lk l es line) : CarsOk l es line := ⟨fun c hc => V.car c (k.sub c hc), k.nd, k.sub, Nat.le_trans (Nat.le_trans (nodup_le k.nd k.sub) V.fl) (by decide)⟩
theorem sort_perm {V W : List Str} (h : V.Perm W) : sortS V = sortS W := by
  have h1 := List.pairwise_mergeSort (le := leS) leS_trans leS_total V
  have h2 := List.pairwise_mergeSort (le := leS) leS_trans leS_total W
  exact List.Perm.eq_of_pairwise (le := fun a b => leS a b = true) (fun a b _ _ => leS_anti) h1 h2 ((List.mergeSort_perm V leS).trans (h.trans (List.mergeSort_perm W leS).symm))
theorem perm_sort {V W : List Str} (h : sortS V = sortS W) : V.Perm W := (List.mergeSort_perm V leS).symm.trans ((show V.mergeSort leS = W.mergeSort leS from h) ▸ List.mergeSort_perm W leS)
theorem isNonD_iff {d : D} : isNonD d = true ↔ d = .none := by cases d <;> simp [isNonD]
/-- the cars of a possible lane can stay -/
theorem can_set {l line : List Str} {es : List Ev} (K : Ln l es line) (h : canM l es line) : setR l es line = .none := by
  obtain ⟨h1, h2, h3, h4, h5⟩ := (can_iff K).mp h
  have ndl := (List.nodup_append.mp K.nd).1
  have he := eOk_of ndl h2
  unfold setR
  rw [if_neg (fun z => z h1), h4]
  dsimp only
  unfold eOk at he
  cases hp : plc l line with
  | nil => rfl
  | cons p0 ps =>
    dsimp only
    rw [hp] at he
    dsimp only at he
    have hlast : (p0 :: ps).getLast (by simp) ∈ plc l line := by rw [hp]; exact List.getLast_mem _
    have hlt := plc_lt hlast
    have hle : p0 ≤ (p0 :: ps).getLast (by simp) := by
      have asc := plc_asc l line
      rw [hp] at asc
      exact asc_last (by simp) asc p0 List.mem_cons_self
    generalize (p0 :: ps).getLast (by simp) = pl at *
    have hf : ((l.drop p0).take (pl - p0)).find? (fun c => decide (c ∉ line)) = none := by
      refine List.find?_eq_none.mpr fun c hc => ?_
      have hm : c ∈ run l line := by
        rw [← he]
        unfold seg
        have e : (l.drop p0).take (pl - p0) = ((l.drop p0).take (pl + 1 - p0)).take (pl - p0) := by rw [List.take_take]; congr 1; omega
        rw [e] at hc
        exact List.mem_of_mem_take hc
      unfold run at hm
      simpa using (List.mem_filter.mp hm).1
    rw [hf]
    dsimp only
    cases hq : posP es line with
    | nil => rfl
    | cons q qs =>
      dsimp only
      have sw := (swAt_iff.mp h5) 0 (by rw [hq]; simp)
      unfold swP at sw
      have hpa : pAt es line 0 = q := by unfold pAt; rw [hq]; rfl
      rw [hpa] at sw
      have hsn : snc es line 0 = 0 := rfl
      rw [hsn] at sw
      have hd0 : depN (es.take 0) = 0 := by simp [depN]
      rw [hd0] at sw
      have sw2 := of_decide_eq_false sw
      cases hr : run l line with
      | nil =>
        rw [hr] at he
        have := congrArg List.length he
        unfold seg at this
        rw [List.length_take, List.length_drop] at this
        simp at this
        omega
      | cons r0 rs =>
        have hl : (r0 :: rs).length = pl + 1 - p0 := by
          rw [← hr, ← he]
          unfold seg
          rw [List.length_take, List.length_drop]
          omega
        have hix : ix l r0 = p0 := by
          have e2 : l[p0]? = some r0 := by
            have := congrArg List.head? (he.trans hr)
            unfold seg at this
            rw [show pl + 1 - p0 = (pl - p0) + 1 by omega, List.head?_take, if_neg (by omega), List.head?_drop] at this
            exact this
          exact ix_at ndl e2
        unfold need at sw2
        rw [hr] at sw2
        dsimp only at sw2
        rw [hix] at sw2
        rw [if_neg ?_]
        split at sw2
        · split <;> omega
        · split <;> omega
/-- a set can stay: it is the set of a history's lane -/
theorem set_all (V : Vl l es) (A : All l es ls) (k : Lk l es S) : isNonD (setR l es S) = decide (sortS S ∈ ls.map sortS) := by
  rw [Bool.eq_iff_iff, isNonD_iff, decide_eq_true_eq, List.mem_map]
  constructor
  · intro h
    obtain ⟨a, b, v⟩ := setR_iff.mp h
    obtain ⟨hs, h1, h2⟩ := set_hist V.nd k.nd k.sub v
    exact ⟨LN l hs, (A.mem _).mpr ⟨hs, h1, rfl⟩, sort_perm h2⟩
  · rintro ⟨L, h1, h2⟩
    obtain ⟨hs, rfl, rfl⟩ := (A.mem L).mp h1
    have pm := perm_sort h2
    have room : ∀ h r b, hs = h ++ (none, b) :: r → 0 < endN l.length (evs h) := fun h r b e => V.room (evs h) (evs r) (by rw [e, evs_app]; rfl)
    have ln : ∀ h : List (Ev × Bool), ∀ r, hs = h ++ r → ((LN l h).length : Int) = endN l.length (evs h) := by
      refine rev_ind (P := fun h => ∀ r, hs = h ++ r → ((LN l h).length : Int) = endN l.length (evs h)) ?_ ?_
      · intro r _; simp [LN, evs, endN]
      · intro h x ih r e
        have ih' := ih (x :: r) (by rw [e]; simp)
        obtain ⟨a, b⟩ := x
        rw [LN_snoc, evs_app]
        have en : endN l.length (evs h ++ evs [(a, b)]) = endN l.length (evs h) + dl a := endN_snoc _ _ _
        rw [en, ← ih']
        cases a with
        | some c => cases b <;> simp [lnS, dl]
        | none =>
          have := room h r b (by rw [e]; simp)
          cases b <;> simp [lnS, dl] <;> omega
    have can := hist_can V.nd fun h r b e z => by
      have h1 := ln h _ e
      have h2 := room h r b e
      rw [z] at h1
      simp at h1
      omega
    have kl : Lk l (evs hs) (LN l hs) := ⟨pm.nodup_iff.mpr k.nd, fun x hx => k.sub x (pm.mem_iff.mp hx)⟩
    obtain ⟨a, b, v⟩ := setR_iff.mp (can_set (V.ln kl) can)
    exact setR_iff.mpr ⟨a, b, v.perm pm⟩
theorem w_cs (V : Vl l es) (A : All l es ls) (k : Lk l es S) (q : Q (.d (.bool (decide (sortS S ∈ ls.map sortS)))) [none, none, none]) : WF fn_can_stay [.d (sD l), .d (lg es), .d (sD S)] Q := by
  refine .of (run_can l es S (fun x hx => V.car x (List.mem_append_left _ hx)) (List.nodup_append.mp V.nd).1 (Nat.le_trans V.ll (by decide)) V.log (V.carsOk k)) ?_
  rw [set_all V A k]
  exact q
theorem run_why (l : List Str) (es : List Ev) (cs : List Str) (hc : ∀ x ∈ l, carB x = true) (hn : l.Nodup) (h1 : l.length ≤ 2000) (ok : LogOk l es) (ck : CarsOk l es cs) : fn_why_cannot_stay [.d (sD l), .d (lg es), .d (sD cs)] = some (.d (setR l es cs), [none, none, none]) := by
  simp [fn_why_cannot_stay, runFn, m_why_cannot_stay, mCall, fzIO, pars, par, okSlots, putOuts, run_check_all l es cs hc hn h1 ok ck, run_set_reason l es cs h1 ok.len]
theorem w_wcs (V : Vl l es) (k : Lk l es S) (q : Q (.d (setR l es S)) [none, none, none]) : WF fn_why_cannot_stay [.d (sD l), .d (lg es), .d (sD S)] Q :=
  .of (run_why l es S (fun x hx => V.car x (List.mem_append_left _ hx)) (List.nodup_append.mp V.nd).1 (Nat.le_trans V.ll (by decide)) V.log (V.carsOk k)) q
end
end Ol
set_option Elab.async false
set_option linter.all false
set_option maxRecDepth 100000
set_option maxHeartbeats 4000000
/-! the law's _law_set -/
namespace Ol
open PySem PySem.Spec PyProof.Rows L2
theorem sorted_set {found : List Str} (h : found.length ≤ 60) : oSorted (.d (.list (found.map .str))) = some (.new (.lst ((sortS (dist found)).map .str))) := by
  have h1 := dist_len found
  have h2 : found.length + 1 < scanBound ∧ (dist found).length < 64 := ⟨Nat.lt_of_le_of_lt (by omega : found.length + 1 ≤ 1000) (by decide +kernel), by omega⟩
  show (strsOf (found.map .str)).bind _ = _
  rw [strsOf_strs, Option.bind_some, if_pos h2]
section
variable {Q : PV → List (Option Ob) → Prop} {QS : Rs → Prop} {l : List Str} {es : List Ev} {line : List Str} {a b c : Int}
def l6a : MS := (mIfS (mAndT (mTest (m2 oEq (mVar 3) (mC (.int 1)))) (mTest (m2 oNe (mVar 4) (mLst mNil)))) (mSetIx 4 fSetL (mCall [true, false] fn__law_take (mCons (mVar 0) (mCons (mB oLen (mCons (mVar 4) mNil)) mNil))) (m2 oIx (mVar 2) (mCall [true, false] fn__law_take (mCons (mVar 0) (mCons (mB oLen (mCons (mVar 2) mNil)) mNil))))) mSkip)
def l6b : MS := (mIfS (mTest (m2 oEq (mVar 3) (mC (.int 2)))) (mAsg (store 4) (mCompN [("name", 6)] (store 6) (mIter (mVar 2)) (mTest (m2 oEq (mCall [true, false] fn__law_take (mCons (mVar 0) (mCons (mC (.int 2)) mNil))) (mC (.int 0)))) (mVar 6))) mSkip)
def l6c : MS := (mSeq (mAsg (store 5) (mSortedSet (mVar 4))) (mRet (mB oTuple (mCons (mCompN [("k", 7)] (store 7) (mRange1 (mCons (mB oLen (mCons (mVar 5) mNil)) mNil)) mYes (mMeth 0 5 fPopAt (mCons (mCall [true, false] fn__law_take (mCons (mVar 0) (mCons (mB oLen (mCons (mVar 5) mNil)) mNil))) mNil))) mNil))))
theorem set_is : m__law_set = (mSeq (mAsgF 3 (mCall [true, false] fn__law_take (mCons (mVar 0) (mCons (mC (.int 3)) mNil)))) (mSeq (mAsg (store 4) (mB oList (mCons (mVar 1) mNil))) (mSeq l6a (mSeq l6b l6c)))) := rfl
structure S6 (n : Nat) (b : Int) (l : List Str) (es : List Ev) (line : List Str) (e : Env) : Prop where
  ex : ∃ (found : List Str) (a c kind : Int), e = [some (.own true (bgO a b c)), some (.d (sD line)), some (.d (.list ((l ++ arr es).map .str))), some (.d (.int kind)), some (.own false (.lst (found.map .str))), none, none, none] ∧ (∀ x ∈ found, x ∈ l ++ arr es) ∧ found.length ≤ 13 ∧ Bi n a b c
structure P6 (n : Nat) (b : Int) (l : List Str) (es : List Ev) (line : List Str) (fd : List Str) (kind : Int) (d : Nat) (acc : List D) (e : Env) : Prop where
  ex : ∃ (s : List Str) (a c : Int), acc = s.map .str ∧ s.length ≤ d ∧ (∀ x ∈ s, x ∈ l ++ arr es) ∧ e = [some (.own true (bgO a b c)), some (.d (sD line)), some (.d (.list ((l ++ arr es).map .str))), some (.d (.int kind)), some (.own false (.lst (fd.map .str))), none, none, none] ∧ Bi (n + d) a b c
structure R6 (n : Nat) (b : Int) (f : Int → Int → List Str → Env) (S : List Str) (d : Nat) (acc : List D) (e : Env) : Prop where
  ex : ∃ (s rest : List Str) (a c : Int), acc = s.map .str ∧ (s ++ rest).Perm S ∧ s.length = d ∧ e = f a c rest ∧ Bi (n + d) a b c
local macro_rules | `(tactic| walk_at "SD.P06w") => `(tactic| first
  | omega
  | (simp only [List.length_map, List.length_append, List.length_cons, List.length_nil, List.length_drop, List.length_take, List.length_dropLast, List.length_singleton, List.length_eraseIdx, List.length_zipIdx, List.length_range, List.length_range', List.length_reverse, List.length_set]; omega)
  | (with_reducible assumption))
local macro_rules | `(tactic| walk_at "CLEAN.P06w") => `(tactic| dsimp only [rd, rds, sget, sset, fz, fzs, fzP, flt, store, stores, svOf, comps, mNames, back, backs, Ob.rv, Ob.kind, pars, par, fzIO, putOuts, outsOf, okSlots, pick, wipeE, restE, frT, List.map, List.append_nil, List.nil_append, List.cons_append, List.replicate, Option.bind_some, bD, iD, if_true, reduceIte, List.getElem?_cons_zero, List.getElem?_cons_succ])
local macro_rules | `(tactic| walk_at "CL.P06w") => `(tactic| try (dsimp only [rd, rds, sget, sset, fz, fzs, fzP, flt, store, stores, svOf, comps, mNames, back, backs, Ob.rv, Ob.kind, pars, par, fzIO, putOuts, outsOf, okSlots, pick, wipeE, restE, frT, Option.map_some, List.map, List.append_nil, List.nil_append, List.cons_append, List.replicate, Option.bind_some, bD, iD, if_true, reduceIte, List.getElem?_cons_zero, List.getElem?_cons_succ]))
local macro_rules | `(tactic| walk_at "OP.P06w") => `(tactic| first
  | (with_reducible assumption)
  | (apply_rules (transparency := .reducible) (maxDepth := 1) only [in_tup, in_lst, in_set, in_dic, ix_list0, ix_list1, ix_tup0, ix_tup1, o_eqI, o_neI, ix_evI, ix_evC, ix_evO, o_eqII, o_eqOI, o_eqIO, o_eqOO, o_neNilI, o_eqNilI, o_rev, o_isB, strsOf_strs])
  | ((with_reducible refine o_addS ?_); walk_at "SD.P06w")
  | ((with_reducible refine o_addT ?_); walk_at "SD.P06w")
  | ((with_reducible refine o_addL ?_); walk_at "SD.P06w")
  | ((with_reducible refine f_append ?_); walk_at "SD.P06w")
  | ((with_reducible refine o_div ?_ ?_) <;> walk_at "SD.P06w")
  | ((with_reducible refine o_mod ?_); walk_at "SD.P06w")
  | (with_reducible refine o_eqS (by first | assumption | exact ok_in | exact ok_out) (by first | assumption | exact ok_in | exact ok_out))
  | ((with_reducible refine o_ixS ?_ ?_) <;> walk_at "SD.P06w")
  | ((with_reducible refine o_ixT ?_ ?_) <;> walk_at "SD.P06w")
  | ((with_reducible refine f_setS ?_ ?_) <;> walk_at "SD.P06w")
  | ((with_reducible refine o_minL ?_); walk_at "SD.P06w")
  | ((with_reducible refine o_neNil ?_); (with_reducible assumption))
  | ((with_reducible refine o_eqNil ?_); (with_reducible assumption))
  | ((with_reducible refine f_popAt ?_ ?_ ?_) <;> walk_at "SD.P06w")
  | ((with_reducible assumption))
  | ((with_reducible refine lend_ok ?_); (first | (simp only [nlP, nlM, nlO, nl, nls, nls_strs, nl_sD, Bool.and_self]; done) | (simp [nlP, nlM, nlO, nl, nls, nls_strs]; done)))
  | ((fail_if_success (with_reducible apply may_pop)); exact rfl)
  | (exact store_om rfl rfl)
  | (exact store_oo rfl rfl)
  | walk_at "SD.P06w")
local macro_rules | `(tactic| walk_at "EV1.P06w") => `(tactic| (first
  | (apply_rules (transparency := .reducible) (maxDepth := 500) only [u_thn, u_thnR, u_turn, u_turnR, u_finN, u_finR, u_inx, u_seq, u_ifS, u_skip, u_asgF, u_asg, u_asgT, u_idx, u_listR, u_ssI, u_ss, u_drop, u_ret, u_retN, u_retT, u_par, u_setIx, u_for, u_break, u_cont, u_c, u_newT, u_m1, u_m2, u_nil, u_cons, u_mB, u_tup, u_lst, u_test, u_tru, u_yes, u_andT, u_orT, u_notT, u_and, u_or, u_not, u_if, u_chain, u_noP, u_P, u_sl, u_meth, u_isi, u_isi2, u_call, u_callK, u_iter, u_enum, u_range1, u_range2, sp_tt, sp_ff, Exists.intro])
  | ((with_reducible refine u_mayVar ?_); first | (refine u_var rfl ?_) | (refine u_varO rfl ?_))
  | ((with_reducible refine u_mayWG ?_); first | (refine u_g (by first | (walk_at "CLEAN.P06w"; exact rfl) | (walk_at "CLEAN.P06w"; done) | exact store_om rfl rfl | exact store_oo rfl rfl) ?_) | (refine u_gs (by first | (walk_at "CLEAN.P06w"; exact rfl) | (walk_at "CLEAN.P06w"; done)) ?_))
  | ((with_reducible refine sp_dt ?_ ?_); focus (first | assumption | omega))
  | ((with_reducible refine sp_df ?_ ?_); focus (first | assumption | omega))
  | ((with_reducible refine sp_et ?_ ?_); focus (first | assumption | omega))
  | ((with_reducible refine sp_ndt ?_ ?_); focus (first | assumption | omega))
  | ((with_reducible refine sp_ndf ?_ ?_); focus (first | assumption | omega))
  | ((with_reducible refine sp_ef ?_ ?_); focus (first | assumption | omega))
  | (with_reducible refine sp_t (by assumption) ?_)
  | (with_reducible refine sp_f (by assumption) ?_)
  | (with_reducible refine sp_nt (by first | assumption | rfl) ?_)
  | (with_reducible refine sp_nf (by first | assumption | rfl) ?_)
  | (with_reducible refine sp_d (fun hb => ?_) (fun hb => ?_))
  | (with_reducible refine sp_nd (fun hb => ?_) (fun hb => ?_))
  | (with_reducible refine sp_e (fun hb => ?_) (fun hb => ?_))
  | (with_reducible refine sp_ne (fun hb => ?_) (fun hb => ?_))
  | (with_reducible refine sp_xf (fun hb => ?_) (fun hb => ?_))
  | (with_reducible refine sp_xt (fun hb => ?_) (fun hb => ?_))
  | (with_reducible refine sp_b (fun hb => ?_) (fun hb => ?_))
  | ((with_reducible refine u_mayWF ?_); (try (first | (with_reducible refine u_svs1 ?_) | (with_reducible refine u_svs2 ?_) | (with_reducible refine u_svs3 ?_) | (with_reducible refine u_svs4 ?_) | (with_reducible refine u_svs5 ?_) | (with_reducible refine u_svs6 ?_) | (with_reducible refine u_svs7 ?_) | (with_reducible refine u_svs8 ?_))); (first | ((with_reducible refine w_take (by assumption) ?_ ?_ ?_ ?_); (walk_at "SD.P06w"); (walk_at "SD.P06w"); (walk_at "SD.P06w"); intro r a1 c1 h1 h2 h3; try simp only [List.length_map, List.length_append, List.length_cons, List.length_nil] at h3) | fail))
  | ((with_reducible refine And.intro ?_ ?_); focus (first | (walk_at "CLEAN.P06w"; walk_at "OP.P06w"; done) | (walk_at "CLEAN.P06w"; done) | (walk_at "OP.P06w"; done)))
  | fail))
local macro_rules | `(tactic| walk_at "EV.P06w") => `(tactic| repeat' (first | walk_at "EV1.P06w" | fail))
local macro_rules | `(tactic| walk_at "CE.P06w") => `(tactic| try (dsimp only [sset, wipeE, restE, List.map, List.cons_append, List.nil_append, List.append_nil, List.replicate]))
theorem w_set {n : Nat} (h : Bi n a b c) (hn : n ≤ 1000000) (dr : Drawn l es 4 9) (lk : Lk l es line) (q : ∀ S a' c', Lk l es S → Bi (n + 60) a' b c' → Q (.d (sD S)) [some (bgO a' b c'), none, none]) : WF fn__law_set [.own true (bgO a b c), .d (sD line), .d (.list ((l ++ arr es).map .str))] Q := by
  have hl := dr.ll
  have he := dr.el
  have ha := arr_len es
  have ok : ∀ x ∈ l ++ arr es, PyData.strOk x = true := fun x hx => (pool_car (dr.pool x hx)).2
  have fl : (l ++ arr es).length ≤ 13 := by rw [List.length_append]; omega
  have hll := nodup_le lk.nd lk.sub
  refine u_fn rfl ?_
  rw [set_is]
  generalize hX : (mSeq l6a (mSeq l6b l6c)) = X
  walk_at "EV.P06w"
  rename_i r a1 c1 h1 h2 h3
  subst hX
  refine u_seqI (S6 (n + 10) b l es line) ?_ ?_
  · have f3 : ∀ x ∈ line, PyData.strOk x = true := fun x hx => ok x (lk.sub x hx)
    unfold l6a
    by_cases z : line.length = 0
    · walk_at "EV.P06w"
      all_goals first | (exfalso; omega) | exact ⟨line, _, _, _, rfl, lk.sub, by omega, Bi.mono (by assumption) (by omega)⟩ | fail
    · have hpos : 0 < l.length + (arr es).length := by
        rw [List.length_append] at hll
        omega
      walk_at "EV.P06w"
      · refine ⟨_, _, _, _, rfl, fun x hx => ?_, by rw [List.length_set]; omega, Bi.mono (by assumption) (by omega)⟩
        rcases List.mem_or_eq_of_mem_set hx with hx | hx
        · exact lk.sub x hx
        · subst hx
          exact gt_mem (by assumption) (by rw [List.length_append]; omega)
      · exact ⟨line, _, _, _, rfl, lk.sub, by omega, Bi.mono (by assumption) (by omega)⟩
      · exact ⟨line, _, _, _, rfl, lk.sub, by omega, Bi.mono (by assumption) (by omega)⟩
  intro e hi
  obtain ⟨found, a1, c1, kind, rfl, f1, f2, bi⟩ := hi
  refine u_seqI (S6 (n + 30) b l es line) ?_ ?_
  · unfold l6b
    walk_at "EV.P06w"
    · refine u_comp PyData.str (l ++ arr es) (fun d acc e => P6 (n + 10) b l es line found kind d.length acc e) ?_
      walk_at "EV.P06w"
      refine ⟨⟨[], a1, c1, rfl, by simp, by simp, rfl, bi.mono (by simp)⟩, ?_, ?_⟩
      · intro d x rr acc e hd hi
        obtain ⟨s, a4, c4, rfl, hs, hsub, rfl, bi4⟩ := hi
        have hlen := congrArg List.length hd
        rw [List.length_append, List.length_append, List.length_cons] at hlen
        rw [List.length_append] at fl
        have hx : x ∈ l ++ arr es := by rw [hd]; simp
        walk_at "EV.P06w"
        · exact ⟨s ++ [x], _, _, by simp, by simp; omega, fun y hy => by
            rcases List.mem_append.mp hy with h | h
            · exact hsub y h
            · rw [List.mem_singleton.mp h]; exact hx, rfl, Bi.mono (by assumption) (by simp; omega)⟩
        · exact ⟨s, _, _, rfl, by simp; omega, hsub, rfl, Bi.mono (by assumption) (by simp; omega)⟩
      intro acc e' hi
      obtain ⟨s, a4, c4, rfl, hs, hsub, rfl, bi4⟩ := hi
      walk_at "EV.P06w"
      exact ⟨s, a4, c4, kind, rfl, hsub, by omega, bi4.mono (by omega)⟩
    · exact ⟨found, a1, c1, kind, rfl, f1, f2, bi.mono (by omega)⟩
  intro e hi
  obtain ⟨found, a1, c1, kind, rfl, f1, f2, bi⟩ := hi
  have hd1 := dist_len found
  have so := sorted_set (found := found) (by omega)
  have hps : List.Perm (sortS (dist found)) (dist found) := List.mergeSort_perm _ _
  have hln := hps.length_eq
  generalize hcs : sortS (dist found) = cs at *
  unfold l6c
  walk_at "EV.P06w"
  have hdl : cs.length ≤ 13 := by omega
  have K : Lk l es cs := ⟨hps.nodup_iff.mpr (nodup_dist _), fun c hc => f1 c (mem_dist.mp (hps.mem_iff.mp hc))⟩
  refine u_comp (fun d : D => d) (rangeD 0 cs.length) (fun d acc e => R6 (n + 30) b (fun a c rest => [some (.own true (bgO a b c)), some (.d (sD line)), some (.d (.list ((l ++ arr es).map .str))), some (.d (.int kind)), some (.own false (.lst (found.map .str))), some (.own false (.lst (rest.map .str))), none, none]) cs d.length acc e) ?_
  walk_at "EV.P06w"
  have hr : (rangeD 0 cs.length).length = cs.length := by simp [rangeD]
  refine ⟨by rw [List.length_map, Int.toNat_natCast, List.map_id'], ⟨[], cs, a1, c1, rfl, .refl _, rfl, rfl, bi.mono (by simp)⟩, ?_, ?_⟩
  · intro d x rr acc e hd hi
    obtain ⟨s, rest, a4, c4, rfl, pm, hs, rfl, bi4⟩ := hi
    have hlen := congrArg List.length hd
    rw [List.length_append, List.length_cons, hr] at hlen
    have hpl := pm.length_eq
    rw [List.length_append] at hpl
    have hacc : (s.map PyData.str).length < 100000 := by rw [List.length_map]; omega
    refine u_g (store_om (o := none) rfl rfl) ?_
    walk_at "EV.P06w"
    rename_i r2 a5 c5 y1 y2 y3
    refine ⟨s ++ [gt rest r2], dropAt rest r2, a5, c5, by simp, ?_, by simp [hs], rfl, y1.mono (by simp; omega)⟩
    refine List.Perm.trans ?_ pm
    rw [List.append_assoc]
    exact (perm_pop (gt_at y2 y3)).symm.append_left s
  intro acc e' hi
  obtain ⟨s, rest, a4, c4, rfl, pm, hs, rfl, bi4⟩ := hi
  have hpl := pm.length_eq
  rw [List.length_append] at hpl
  have e0 : rest = [] := List.length_eq_zero_iff.mp (by omega)
  subst e0
  rw [List.append_nil] at pm
  walk_at "EV.P06w"
  exact q s a4 c4 ⟨pm.nodup_iff.mpr K.nd, fun x hx => K.sub x (pm.mem_iff.mp hx)⟩ (bi4.mono (by omega))
end
end Ol
set_option Elab.async false
set_option linter.all false
set_option maxRecDepth 100000
set_option maxHeartbeats 4000000
/-! k06: the law -/
namespace Ol
open PySem PySem.Spec PyProof.Rows L2
def l6T : MS := (mSeq (mAsgF 11 (mCall [true, false, false] fn__law_set (mCons (mVar 2) (mCons (m2 oIx (mVar 10) (mCall [true, false] fn__law_take (mCons (mVar 2) (mCons (mB oLen (mCons (mVar 10) mNil)) mNil)))) (mCons (mVar 3) mNil))))) (mSeq (mAsgF 12 (m2 (oInT false) (mB oTuple (mCons (mB oSortS (mCons (mVar 11) mNil)) mNil)) (mVar 4))) (mSeq (mIfS (mOrT (mNotT (mTru (mCall [false, false] fn__law_truth (mCons (mCall [false, false, false] fn_can_stay (mCons (mVar 8) (mCons (mVar 9) (mCons (mVar 11) mNil)))) (mCons (mVar 12) mNil))))) (mTest (m2 oNeS (mB oRepr (mCons (mVar 9) mNil)) (mVar 5)))) (mRet (mC (.bool false))) mSkip) (mSeq (mIfS (mTest (m2 oNe (m2 oIsN (mCall [false, false, false] fn_why_cannot_stay (mCons (mVar 8) (mCons (mVar 9) (mCons (mVar 11) mNil)))) (mC .none)) (mVar 12))) (mRet (mC (.bool false))) mSkip) (mIfS (mNotT (mTru (mCall [false, false] fn__law_truth (mCons (mCallK [2, 1, 0] [false, false, false] fn_can_stay (mCons (m1 oRevT (mVar 11)) (mCons (mVar 9) (mCons (mVar 8) mNil)))) (mCons (mVar 12) mNil))))) (mRet (mC (.bool false))) mSkip)))))
def l6B : MS := (mSeq (mDrop (mMeth 0 9 fAppend (mCons (mTup (mCons (mC (.str "in")) (mCons (mC (.str "yy")) mNil))) mNil))) (mSeq (mAsgF 7 (m2 oIx (mVar 10) (mCall [true, false] fn__law_take (mCons (mVar 2) (mCons (mB oLen (mCons (mVar 10) mNil)) mNil))))) (mIfS (mOrT (mTest (m2 oNotB (mCall [false, false, false] fn_can_stay (mCons (mVar 8) (mCons (mVar 9) (mCons (m2 oAdd (mVar 7) (mTup (mCons (mC (.str "yy")) mNil))) mNil)))) (mC (.bool true)))) (mTest (m2 oNotB (mCall [false, false, false] fn_can_stay (mCons (mVar 8) (mCons (mVar 9) (mCons (mVar 7) mNil)))) (mC (.bool false))))) (mRet (mC (.bool false))) mSkip)))
def l6A : MS := (mSeq (mAsg (store 2) (mCall [false, false] fn__law_bag (mCons (mCall [false, false] fn__law_cell_at (mCons (mVar 0) (mCons (mVar 1) mNil))) (mCons (mVar 1) mNil)))) (mSeq (mAsg (mNames [8, 9, 10]) (mCall [true, false, false, false] fn__law_few (mCons (mVar 2) (mCons (mC (.int 4)) (mCons (mC (.int 9)) (mCons (mC (.int 120)) mNil)))))) (mSeq (mAsgF 3 (mCall [false, false] fn__law_folk (mCons (mVar 8) (mCons (mVar 9) mNil)))) (mSeq (mAsgF 4 (mB oDictT (mCons (mCompN [("line", 7)] (store 7) (mIter (mVar 10)) mYes (mTup (mCons (mB oTuple (mCons (mB oSortS (mCons (mVar 7) mNil)) mNil)) (mCons (mC (.bool true)) mNil)))) mNil))) (mSeq (mAsgF 5 (mB oRepr (mCons (mVar 9) mNil))) (mSeq (mFor (store 6) (mRange1 (mCons (mC (.int 16)) mNil)) l6T) l6B))))))
theorem law_is : m_law = (mSeq (mFor (store 1) (mRange1 (mCons (mB oMax (mCons (mC (.int 1)) (mCons (mB oMin (mCons (mC (.int 4)) (mCons (mB oLen (mCons (mVar 0) mNil)) mNil))) mNil))) mNil)) l6A) (mRet (mAnd (m2 oIsB (mCall [false, false, false] fn_can_stay (mCons (mTup mNil) (mCons (mLst mNil) (mCons (mTup mNil) mNil)))) (mC (.bool true))) (m2 oIsB (mCall [false, false, false] fn_can_stay (mCons (mTup (mCons (mC (.str "a")) mNil)) (mCons (mLst (mCons (mTup (mCons (mC (.str "out")) mNil)) mNil)) (mCons (mTup (mCons (mC (.str "a")) mNil)) mNil)))) (mC (.bool false)))))) := rfl
theorem o_neBB {a b : Bool} : oNe (.d (.bool a)) (.d (.bool b)) = some (.d (.bool (!(a == b)))) := by
  cases a <;> cases b <;> rfl
theorem nl_setR (l : List Str) (es : List Ev) (line : List Str) : nl (setR l es line) = true := by
  unfold setR
  repeat' split
  all_goals rfl
theorem o_isND {d : D} : oIsN (.d d) (.d .none) = some (.d (.bool (isNonD d))) := by
  rw [← isNon_d]
  rfl
theorem stores3 {i j k : Nat} {x y z : PV} {e e1 e2 e3 : Env} (h1 : store i x e = some e1) (h2 : store j y e1 = some e2) (h3 : store k z e2 = some e3) : mNames [i, j, k] (.tup [x, y, z]) e = some e3 := by
  show (store i x e).bind (stores [j, k] [y, z]) = some e3
  rw [h1]
  show (store j y e1).bind (stores [k] [z]) = some e3
  rw [h2]
  show (store k z e2).bind (stores [] []) = some e3
  rw [h3]
  rfl
theorem o_ixL {ls : List (List Str)} {r : Int} (h0 : 0 ≤ r) (h1 : r < (ls.length : Int)) : oIx (.d (.list (ls.map sD))) (.d (.int r)) = some (.d (sD (ls.getD r.toNat []))) := by
  obtain ⟨i, rfl⟩ : ∃ k : Nat, r = k := ⟨r.toNat, by omega⟩
  refine ix_nat _ i _ ?_
  have : i < ls.length := by omega
  simp [List.getElem?_map, List.getElem?_eq_getElem this, List.getD_eq_getElem?_getD]
theorem getD_mem {ls : List (List Str)} {r : Int} (h0 : 0 ≤ r) (h1 : r < (ls.length : Int)) : ls.getD r.toNat [] ∈ ls := by
  have : r.toNat < ls.length := by omega
  rw [List.getD_eq_getElem?_getD, List.getElem?_eq_getElem this]
  exact List.getElem_mem this
theorem o_nbT : oNotB (.d (.bool true)) (.d (.bool true)) = some (.d (.bool false)) := rfl
theorem o_nbF : oNotB (.d (.bool false)) (.d (.bool false)) = some (.d (.bool false)) := rfl
theorem o_sortT {S : List Str} : oSortS [.d (sD S)] = some (.new (.lst ((sortS S).map .str))) := by
  show (strsOf (S.map .str)).bind _ = _
  rw [strsOf_strs]
  rfl
theorem o_revS {S : List Str} : oRevT (.d (sD S)) = some (.d (sD S.reverse)) := by
  show some (PV.d (.tuple (S.map PyData.str).reverse)) = _
  rw [← List.map_reverse]
theorem yy_ok : carB ("yy" : Str) = true ∧ PyData.strOk ("yy" : Str) = true := by decide +kernel
section
variable {Q : PV → List (Option Ob) → Prop} {QS : Rs → Prop} {l : List Str} {es : List Ev} {ls : List (List Str)} {S : List Str} {a b c : Int} {p q : Bool}
theorem yy_not (dr : Drawn l es 4 9) : ("yy" : Str) ∉ l ++ arr es := fun h => by
  have := List.all_eq_true.mp pool_not _ (dr.pool _ h)
  simp at this
theorem w_truth (h : p = q) (k : Q (.d (.bool true)) [none, none]) : WF fn__law_truth [.d (.bool p), .d (.bool q)] Q := by
  subst h
  exact .of (run_truth p) k
theorem w_cell {ns : List Int} {k : Nat} (h : ns.length ≤ 1000) (q : ∀ i, Q (.d (.int i)) [none, none]) : WF fn__law_cell_at [.d (.list (ns.map .int)), .d (.int (k : Nat))] Q := by
  obtain ⟨i, hi⟩ := run_cell ns k h
  exact .of hi (q i)
theorem w_bag {x : Int} {k : Nat} (hk : k < 20) (q : ∀ a b c, Bi 0 a b c → Q (.new (bgO a b c)) [none, none]) : WF fn__law_bag [.d (.int x), .d (.int (k : Nat))] Q := by
  obtain ⟨ds, h1, a, b, c, rfl, h2, h3, h4, h5, h6⟩ := run_bag x k hk
  exact .of h1 (q a b c ⟨h2, h3, h4, h5, h6⟩)
theorem w_csR (V : Vl l es) (A : All l es ls) (k : Lk l es S) (q : Q (.d (.bool (decide (sortS S ∈ ls.map sortS)))) [none, none, none]) : WF fn_can_stay [.d (sD l), .d (lg es), .d (sD S.reverse)] Q := by
  have pm := List.reverse_perm S
  refine w_cs V A ⟨pm.nodup_iff.mpr k.nd, fun x hx => k.sub x (pm.mem_iff.mp hx)⟩ ?_
  rw [sort_perm pm]
  exact q
theorem w_csY (V : Vl l es) (A : All l es ls) (k : Lk l es S) (hm : sortS S ∈ ls.map sortS) (q : Q (.d (.bool true)) [none, none, none]) : WF fn_can_stay [.d (sD l), .d (lg es), .d (sD S)] Q := w_cs V A k (by rw [decide_eq_true hm]; exact q)
theorem w_csN (V : Vl l es) (A : All l es ls) (k : Lk l es S) (hm : sortS S ∉ ls.map sortS) (q : Q (.d (.bool false)) [none, none, none]) : WF fn_can_stay [.d (sD l), .d (lg es), .d (sD S)] Q := w_cs V A k (by rw [decide_eq_false hm]; exact q)
abbrev e6 (ns : List Int) (k : D) (a b c : Int) (l : List Str) (es : List Ev) (ls : List (List Str)) (v6 v7 v11 v12 : Option D) : Env := [some (.d (.list (ns.map .int))), some (.d k), some (.own false (bgO a b c)), some (.d (.list ((l ++ arr es).map .str))), some (.own false (.dit (kn (ls.map sortS)))), some (.d (.str (lg es).shown)), v6.map .d, v7.map .d, some (.d (sD l)), some (.own false (.lst (es.map ev))), some (.d (.list (ls.map sD))), v11.map .d, v12.map .d]
structure L6I (ns : List Int) (e : Env) : Prop where
  ex : ∃ (v2 v4 v9 : Option Ob) (v1 v3 v5 v6 v7 v8 v10 v11 v12 : Option D), e = [some (.d (.list (ns.map .int))), v1.map .d, v2.map (.own false), v3.map .d, v4.map (.own false), v5.map .d, v6.map .d, v7.map .d, v8.map .d, v9.map (.own false), v10.map .d, v11.map .d, v12.map .d]
local macro_rules | `(tactic| walk_at "SD.P06x") => `(tactic| first
  | omega
  | (simp only [List.length_map, List.length_append, List.length_cons, List.length_nil, List.length_drop, List.length_take, List.length_dropLast, List.length_singleton, List.length_eraseIdx, List.length_zipIdx, List.length_range, List.length_range', List.length_reverse, List.length_set]; omega)
  | (with_reducible assumption))
local macro_rules | `(tactic| walk_at "CLEAN.P06x") => `(tactic| dsimp only [rd, rds, sget, sset, fz, fzs, fzP, flt, store, stores, svOf, comps, mNames, back, backs, Ob.rv, Ob.kind, pars, par, fzIO, putOuts, outsOf, okSlots, pick, wipeE, restE, frT, List.map, List.append_nil, List.nil_append, List.cons_append, List.replicate, Option.bind_some, bD, iD, if_true, reduceIte, List.getElem?_cons_zero, List.getElem?_cons_succ])
local macro_rules | `(tactic| walk_at "CL.P06x") => `(tactic| try (dsimp only [rd, rds, sget, sset, fz, fzs, fzP, flt, store, stores, svOf, comps, mNames, back, backs, Ob.rv, Ob.kind, pars, par, fzIO, putOuts, outsOf, okSlots, pick, wipeE, restE, frT, Option.map_some, List.map, List.append_nil, List.nil_append, List.cons_append, List.replicate, Option.bind_some, bD, iD, if_true, reduceIte, List.getElem?_cons_zero, List.getElem?_cons_succ]))
local macro_rules | `(tactic| walk_at "OP.P06x") => `(tactic| first
  | (with_reducible assumption)
  | (apply_rules (transparency := .reducible) (maxDepth := 1) only [in_tup, in_lst, in_set, in_dic, ix_list0, ix_list1, ix_tup0, ix_tup1, o_eqI, o_neI, ix_evI, ix_evC, ix_evO, o_eqII, o_eqOI, o_eqIO, o_eqOO, o_neNilI, o_eqNilI, o_rev, o_isB, strsOf_strs])
  | ((with_reducible refine o_addS ?_); walk_at "SD.P06x")
  | ((with_reducible refine o_addT ?_); walk_at "SD.P06x")
  | ((with_reducible refine o_addL ?_); walk_at "SD.P06x")
  | ((with_reducible refine f_append ?_); walk_at "SD.P06x")
  | ((with_reducible refine o_div ?_ ?_) <;> walk_at "SD.P06x")
  | ((with_reducible refine o_mod ?_); walk_at "SD.P06x")
  | (with_reducible refine o_eqS (by first | assumption | exact ok_in | exact ok_out) (by first | assumption | exact ok_in | exact ok_out))
  | ((with_reducible refine o_ixS ?_ ?_) <;> walk_at "SD.P06x")
  | ((with_reducible refine o_ixT ?_ ?_) <;> walk_at "SD.P06x")
  | ((with_reducible refine f_setS ?_ ?_) <;> walk_at "SD.P06x")
  | ((with_reducible refine o_minL ?_); walk_at "SD.P06x")
  | ((with_reducible refine o_neNil ?_); (with_reducible assumption))
  | ((with_reducible refine o_eqNil ?_); (with_reducible assumption))
  | ((with_reducible refine f_popAt ?_ ?_ ?_) <;> walk_at "SD.P06x")
  | ((with_reducible assumption))
  | ((with_reducible exact o_inT))
  | ((with_reducible exact o_isND))
  | ((with_reducible exact o_neSS))
  | ((with_reducible exact o_sortT))
  | ((with_reducible exact o_revS))
  | ((with_reducible refine o_ixL ?_ ?_) <;> walk_at "SD.P06x")
  | ((with_reducible refine lend_ok ?_); (first | (simp only [nlP, nlM, nlO, nl, nls, nls_strs, nl_sD, nl_setR, Bool.and_self]; done) | (simp [nlP, nlM, nlO, nl, nls, nls_strs, nl_setR]; done)))
  | ((fail_if_success (with_reducible apply may_pop)); exact rfl)
  | (exact store_om rfl rfl)
  | (exact store_oo rfl rfl)
  | walk_at "SD.P06x")
local macro_rules | `(tactic| walk_at "EV1.P06x") => `(tactic| (first
  | (apply_rules (transparency := .reducible) (maxDepth := 500) only [u_thn, u_thnR, u_turn, u_turnR, u_finN, u_finR, u_inx, u_seq, u_ifS, u_skip, u_asgF, u_asg, u_asgT, u_idx, u_listR, u_ssI, u_ss, u_drop, u_ret, u_retN, u_retT, u_par, u_setIx, u_for, u_break, u_cont, u_c, u_newT, u_m1, u_m2, u_nil, u_cons, u_mB, u_tup, u_lst, u_test, u_tru, u_yes, u_andT, u_orT, u_notT, u_and, u_or, u_not, u_if, u_chain, u_noP, u_P, u_sl, u_meth, u_isi, u_isi2, u_call, u_callK, u_iter, u_enum, u_range1, u_range2, sp_tt, sp_ff, Exists.intro])
  | ((with_reducible refine u_mayVar ?_); first | (refine u_var rfl ?_) | (refine u_varO rfl ?_))
  | ((with_reducible refine u_mayWG ?_); first | (refine u_g (by first | (walk_at "CLEAN.P06x"; exact rfl) | (walk_at "CLEAN.P06x"; done) | exact store_om rfl rfl | exact store_oo rfl rfl) ?_) | (refine u_gs (by first | (walk_at "CLEAN.P06x"; exact rfl) | (walk_at "CLEAN.P06x"; done)) ?_))
  | ((with_reducible refine sp_dt ?_ ?_); focus (first | assumption | omega))
  | ((with_reducible refine sp_df ?_ ?_); focus (first | assumption | omega))
  | ((with_reducible refine sp_et ?_ ?_); focus (first | assumption | omega))
  | ((with_reducible refine sp_ndt ?_ ?_); focus (first | assumption | omega))
  | ((with_reducible refine sp_ndf ?_ ?_); focus (first | assumption | omega))
  | ((with_reducible refine sp_ef ?_ ?_); focus (first | assumption | omega))
  | (with_reducible refine sp_t (by assumption) ?_)
  | (with_reducible refine sp_f (by assumption) ?_)
  | (with_reducible refine sp_nt (by first | assumption | rfl) ?_)
  | (with_reducible refine sp_nf (by first | assumption | rfl) ?_)
  | (with_reducible refine sp_d (fun hb => ?_) (fun hb => ?_))
  | (with_reducible refine sp_nd (fun hb => ?_) (fun hb => ?_))
  | (with_reducible refine sp_e (fun hb => ?_) (fun hb => ?_))
  | (with_reducible refine sp_ne (fun hb => ?_) (fun hb => ?_))
  | (with_reducible refine sp_xf (fun hb => ?_) (fun hb => ?_))
  | (with_reducible refine sp_xt (fun hb => ?_) (fun hb => ?_))
  | (with_reducible refine sp_b (fun hb => ?_) (fun hb => ?_))
  | ((with_reducible refine u_mayWF ?_); (try (first | (with_reducible refine u_svs1 ?_) | (with_reducible refine u_svs2 ?_) | (with_reducible refine u_svs3 ?_) | (with_reducible refine u_svs4 ?_) | (with_reducible refine u_svs5 ?_) | (with_reducible refine u_svs6 ?_) | (with_reducible refine u_svs7 ?_) | (with_reducible refine u_svs8 ?_))); (first | ((with_reducible refine w_take (by assumption) ?_ ?_ ?_ ?_); (walk_at "SD.P06x"); (walk_at "SD.P06x"); (walk_at "SD.P06x"); intro r a1 c1 h1 h2 h3; try simp only [List.length_map, List.length_append, List.length_cons, List.length_nil] at h3) | ((with_reducible refine w_csR (by assumption) (by assumption) (by assumption) ?_)) | ((with_reducible refine w_cs (by assumption) (by assumption) (by assumption) ?_)) | ((with_reducible refine w_wcs (by assumption) (by assumption) ?_)) | ((with_reducible refine w_truth rfl ?_)) | fail))
  | ((with_reducible refine And.intro ?_ ?_); focus (first | (walk_at "CLEAN.P06x"; walk_at "OP.P06x"; done) | (walk_at "CLEAN.P06x"; done) | (walk_at "OP.P06x"; done)))
  | fail))
local macro_rules | `(tactic| walk_at "EV.P06x") => `(tactic| repeat' (first | walk_at "EV1.P06x" | fail))
local macro_rules | `(tactic| walk_at "CE.P06x") => `(tactic| try (dsimp only [sset, wipeE, restE, List.map, List.cons_append, List.nil_append, List.append_nil, List.replicate]))
theorem l6_T {ns : List Int} {k : D} {n : Nat} {v6 v7 v11 v12 : Option D} (bi : Bi n a b c) (hn : n ≤ 900000) (dr : Drawn l es 4 9) (A : All l es ls) (hls : ls.length ≤ 201) (q : ∀ a c v11 v12, Bi (n + 70) a b c → QS (.nx (e6 ns k a b c l es ls v6 v7 v11 v12))) : WS l6T (e6 ns k a b c l es ls v6 v7 v11 v12) QS := by
  have V := dr.vl
  have hp := A.pos
  have orp := o_repr (log_shown (fun c hc => ⟨V.car c (List.mem_append_right _ (List.mem_filterMap.mpr ⟨some c, hc, rfl⟩)), V.ok c (List.mem_append_right _ (List.mem_filterMap.mpr ⟨some c, hc, rfl⟩))⟩) V.el)
  unfold l6T
  walk_at "EV.P06x"
  rename_i r x1 c1 bi2 h2 h3
  have hm := getD_mem h2 h3
  generalize ls.getD r.toNat [] = L at *
  obtain ⟨nd, sub⟩ := All.lk dr A hm
  refine w_set bi2 (by omega) dr ⟨nd, sub⟩ fun S a6 c6 k6 bi6 => ?_
  have hS := set_all V A k6
  have ne1 : oNe (.d (.bool (isNonD (setR l es S)))) (.d (.bool (decide (sortS S ∈ ls.map sortS)))) = some (.d (.bool false)) := by
    rw [hS, o_neBB]
    simp
  walk_at "EV.P06x"
  exact q _ _ (some _) (some _) (bi6.mono (by omega))
end
end Ol
set_option Elab.async false
set_option linter.all false
set_option maxRecDepth 100000
set_option maxHeartbeats 4000000
/-! k06: the end of a turn, the law -/
namespace Ol
open PySem PySem.Spec PyProof.Rows L2
section
variable {Q : PV → List (Option Ob) → Prop} {QS : Rs → Prop} {l : List Str} {es : List Ev} {ls : List (List Str)} {S : List Str} {a b c : Int}
local macro_rules | `(tactic| walk_at "SD.P06y") => `(tactic| first
  | omega
  | (simp only [List.length_map, List.length_append, List.length_cons, List.length_nil, List.length_drop, List.length_take, List.length_dropLast, List.length_singleton, List.length_eraseIdx, List.length_zipIdx, List.length_range, List.length_range', List.length_reverse, List.length_set]; omega)
  | (with_reducible assumption))
local macro_rules | `(tactic| walk_at "CLEAN.P06y") => `(tactic| dsimp only [rd, rds, sget, sset, fz, fzs, fzP, flt, store, stores, svOf, comps, mNames, back, backs, Ob.rv, Ob.kind, pars, par, fzIO, putOuts, outsOf, okSlots, pick, wipeE, restE, frT, List.map, List.append_nil, List.nil_append, List.cons_append, List.replicate, Option.bind_some, bD, iD, if_true, reduceIte, List.getElem?_cons_zero, List.getElem?_cons_succ])
local macro_rules | `(tactic| walk_at "CL.P06y") => `(tactic| try (dsimp only [rd, rds, sget, sset, fz, fzs, fzP, flt, store, stores, svOf, comps, mNames, back, backs, Ob.rv, Ob.kind, pars, par, fzIO, putOuts, outsOf, okSlots, pick, wipeE, restE, frT, Option.map_some, List.map, List.append_nil, List.nil_append, List.cons_append, List.replicate, Option.bind_some, bD, iD, if_true, reduceIte, List.getElem?_cons_zero, List.getElem?_cons_succ]))
local macro_rules | `(tactic| walk_at "OP.P06y") => `(tactic| first
  | (with_reducible assumption)
  | (apply_rules (transparency := .reducible) (maxDepth := 1) only [in_tup, in_lst, in_set, in_dic, ix_list0, ix_list1, ix_tup0, ix_tup1, o_eqI, o_neI, ix_evI, ix_evC, ix_evO, o_eqII, o_eqOI, o_eqIO, o_eqOO, o_neNilI, o_eqNilI, o_rev, o_isB, strsOf_strs])
  | ((with_reducible refine o_addS ?_); walk_at "SD.P06y")
  | ((with_reducible refine o_addT ?_); walk_at "SD.P06y")
  | ((with_reducible refine o_addL ?_); walk_at "SD.P06y")
  | ((with_reducible refine f_append ?_); walk_at "SD.P06y")
  | ((with_reducible refine o_div ?_ ?_) <;> walk_at "SD.P06y")
  | ((with_reducible refine o_mod ?_); walk_at "SD.P06y")
  | (with_reducible refine o_eqS (by first | assumption | exact ok_in | exact ok_out) (by first | assumption | exact ok_in | exact ok_out))
  | ((with_reducible refine o_ixS ?_ ?_) <;> walk_at "SD.P06y")
  | ((with_reducible refine o_ixT ?_ ?_) <;> walk_at "SD.P06y")
  | ((with_reducible refine f_setS ?_ ?_) <;> walk_at "SD.P06y")
  | ((with_reducible refine o_minL ?_); walk_at "SD.P06y")
  | ((with_reducible refine o_neNil ?_); (with_reducible assumption))
  | ((with_reducible refine o_eqNil ?_); (with_reducible assumption))
  | ((with_reducible refine f_popAt ?_ ?_ ?_) <;> walk_at "SD.P06y")
  | ((with_reducible assumption))
  | ((with_reducible exact o_nbT))
  | ((with_reducible exact o_nbF))
  | ((with_reducible refine o_ixL ?_ ?_) <;> walk_at "SD.P06y")
  | ((with_reducible refine lend_ok ?_); (first | (simp only [nlP, nlM, nlO, nl, nls, nls_strs, nl_sD, Bool.and_self]; done) | (simp [nlP, nlM, nlO, nl, nls, nls_strs]; done)))
  | ((fail_if_success (with_reducible apply may_pop)); exact rfl)
  | (exact store_om rfl rfl)
  | (exact store_oo rfl rfl)
  | walk_at "SD.P06y")
local macro_rules | `(tactic| walk_at "EV1.P06y") => `(tactic| (first
  | (apply_rules (transparency := .reducible) (maxDepth := 500) only [u_thn, u_thnR, u_turn, u_turnR, u_finN, u_finR, u_inx, u_seq, u_ifS, u_skip, u_asgF, u_asg, u_asgT, u_idx, u_listR, u_ssI, u_ss, u_drop, u_ret, u_retN, u_retT, u_par, u_setIx, u_for, u_break, u_cont, u_c, u_newT, u_m1, u_m2, u_nil, u_cons, u_mB, u_tup, u_lst, u_test, u_tru, u_yes, u_andT, u_orT, u_notT, u_and, u_or, u_not, u_if, u_chain, u_noP, u_P, u_sl, u_meth, u_isi, u_isi2, u_call, u_callK, u_iter, u_enum, u_range1, u_range2, sp_tt, sp_ff, Exists.intro])
  | ((with_reducible refine u_mayVar ?_); first | (refine u_var rfl ?_) | (refine u_varO rfl ?_))
  | ((with_reducible refine u_mayWG ?_); first | (refine u_g (by first | (walk_at "CLEAN.P06y"; exact rfl) | (walk_at "CLEAN.P06y"; done) | exact store_om rfl rfl | exact store_oo rfl rfl) ?_) | (refine u_gs (by first | (walk_at "CLEAN.P06y"; exact rfl) | (walk_at "CLEAN.P06y"; done)) ?_))
  | ((with_reducible refine sp_dt ?_ ?_); focus (first | assumption | omega))
  | ((with_reducible refine sp_df ?_ ?_); focus (first | assumption | omega))
  | ((with_reducible refine sp_et ?_ ?_); focus (first | assumption | omega))
  | ((with_reducible refine sp_ndt ?_ ?_); focus (first | assumption | omega))
  | ((with_reducible refine sp_ndf ?_ ?_); focus (first | assumption | omega))
  | ((with_reducible refine sp_ef ?_ ?_); focus (first | assumption | omega))
  | (with_reducible refine sp_t (by assumption) ?_)
  | (with_reducible refine sp_f (by assumption) ?_)
  | (with_reducible refine sp_nt (by first | assumption | rfl) ?_)
  | (with_reducible refine sp_nf (by first | assumption | rfl) ?_)
  | (with_reducible refine sp_d (fun hb => ?_) (fun hb => ?_))
  | (with_reducible refine sp_nd (fun hb => ?_) (fun hb => ?_))
  | (with_reducible refine sp_e (fun hb => ?_) (fun hb => ?_))
  | (with_reducible refine sp_ne (fun hb => ?_) (fun hb => ?_))
  | (with_reducible refine sp_xf (fun hb => ?_) (fun hb => ?_))
  | (with_reducible refine sp_xt (fun hb => ?_) (fun hb => ?_))
  | (with_reducible refine sp_b (fun hb => ?_) (fun hb => ?_))
  | ((with_reducible refine u_mayWF ?_); (try (first | (with_reducible refine u_svs1 ?_) | (with_reducible refine u_svs2 ?_) | (with_reducible refine u_svs3 ?_) | (with_reducible refine u_svs4 ?_) | (with_reducible refine u_svs5 ?_) | (with_reducible refine u_svs6 ?_) | (with_reducible refine u_svs7 ?_) | (with_reducible refine u_svs8 ?_))); (first | ((with_reducible refine w_take (by assumption) ?_ ?_ ?_ ?_); (walk_at "SD.P06y"); (walk_at "SD.P06y"); (walk_at "SD.P06y"); intro r a1 c1 h1 h2 h3; try simp only [List.length_map, List.length_append, List.length_cons, List.length_nil] at h3) | ((with_reducible refine w_csY (by assumption) (by assumption) (by assumption) (by assumption) ?_)) | ((with_reducible refine w_csN (by assumption) (by assumption) (by assumption) (by assumption) ?_)) | fail))
  | ((with_reducible refine And.intro ?_ ?_); focus (first | (walk_at "CLEAN.P06y"; walk_at "OP.P06y"; done) | (walk_at "CLEAN.P06y"; done) | (walk_at "OP.P06y"; done)))
  | fail))
local macro_rules | `(tactic| walk_at "EV.P06y") => `(tactic| repeat' (first | walk_at "EV1.P06y" | fail))
local macro_rules | `(tactic| walk_at "CE.P06y") => `(tactic| try (dsimp only [sset, wipeE, restE, List.map, List.cons_append, List.nil_append, List.append_nil, List.replicate]))
theorem l6_B {ns : List Int} {k : D} {n : Nat} {v6 v7 v11 v12 : Option D} (bi : Bi n a b c) (hn : n ≤ 1000000) (dr : Drawn l es 4 9) (A : All l es ls) (hls : ls.length ≤ 201) (q : ∀ e, L6I ns e → QS (.nx e)) : WS l6B (e6 ns k a b c l es ls v6 v7 v11 v12) QS := by
  have hp := A.pos
  have hl := dr.ll
  have he := dr.el
  have ha := arr_len es
  unfold l6B
  generalize hX : (mIfS (mOrT (mTest (m2 oNotB (mCall [false, false, false] fn_can_stay (mCons (mVar 8) (mCons (mVar 9) (mCons (m2 oAdd (mVar 7) (mTup (mCons (mC (.str "yy")) mNil))) mNil)))) (mC (.bool true)))) (mTest (m2 oNotB (mCall [false, false, false] fn_can_stay (mCons (mVar 8) (mCons (mVar 9) (mCons (mVar 7) mNil)))) (mC (.bool false))))) (mRet (mC (.bool false))) mSkip) = X
  walk_at "EV.P06y"
  rename_i r x1 c1 bi2 h2 h3
  have hm := getD_mem h2 h3
  generalize ls.getD r.toNat [] = L at *
  have hE : es.map ev ++ [PyData.tuple [.str "in", .str "yy"]] = (es ++ [some ("yy" : Str)]).map ev := by simp [ev]
  rw [hE]
  obtain ⟨nd, sub⟩ := All.lk dr A hm
  have hy : ("yy" : Str) ∉ L := fun h => yy_not dr (sub _ h)
  have V2 := dr.vl.snoc yy_ok (yy_not dr) (by omega)
  have A2 := A.step (x := some "yy")
  have ea : arr (es ++ [some ("yy" : Str)]) = arr es ++ [("yy" : Str)] := arr_snoc es (some _)
  have sub2 : ∀ x ∈ L, x ∈ l ++ arr (es ++ [some ("yy" : Str)]) := fun x hx => by
    rw [ea, ← List.append_assoc]
    exact List.mem_append_left _ (sub x hx)
  have hyf : ("yy" : Str) ∈ l ++ arr (es ++ [some ("yy" : Str)]) := by
    rw [ea, ← List.append_assoc]
    simp
  have k1 : Lk l (es ++ [some ("yy" : Str)]) L := ⟨nd, sub2⟩
  have k2 : Lk l (es ++ [some ("yy" : Str)]) (L ++ [("yy" : Str)]) := ⟨List.nodup_append.mpr ⟨nd, by simp, fun p hp r hr e => hy (by rw [List.mem_singleton.mp hr] at e; exact e ▸ hp)⟩, fun x hx => by
    rcases List.mem_append.mp hx with h | h
    · exact sub2 x h
    · rw [List.mem_singleton.mp h]; exact hyf⟩
  have m1 : sortS (L ++ [("yy" : Str)]) ∈ (stp (some "yy") ls).map sortS := List.mem_map_of_mem ((mem_stp ls).mpr ⟨L, hm, false, rfl⟩)
  have m0 : sortS L ∉ (stp (some "yy") ls).map sortS := fun h => by
    obtain ⟨M, h1, h2⟩ := List.mem_map.mp h
    obtain ⟨N, h3, bb, h4⟩ := (mem_stp ls).mp h1
    refine hy ((perm_sort h2).mem_iff.mp ?_)
    rw [h4]
    cases bb <;> simp [lnS]
  have hll := nodup_le nd sub
  rw [List.length_append] at hll
  have a2 : oAdd (.d (sD L)) (.d (.tuple [.str "yy"])) = some (.d (sD (L ++ [("yy" : Str)]))) := by
    rw [o_addT (by simp only [List.length_map, List.length_singleton]; omega)]
    simp [sD]
  generalize hE2 : es ++ [some ("yy" : Str)] = es2 at *
  subst hX
  walk_at "EV.P06y"
  exact q _ ⟨some _, some _, some _, some _, some _, some _, v6, some _, some _, some _, v11, v12, rfl⟩
end
end Ol
set_option Elab.async false
set_option linter.all false
set_option maxRecDepth 100000
set_option maxHeartbeats 4000000
/-! k06: a turn, the law -/
namespace Ol
open PySem PySem.Spec PyProof.Rows L2
section
variable {Q : PV → List (Option Ob) → Prop} {QS : Rs → Prop} {l : List Str} {es : List Ev} {ls : List (List Str)} {S : List Str} {a b c : Int}
structure L6V (n : Nat) (f : Int → Int → Option D → Option D → Option D → Env) (b : Int) (m : Nat) (e : Env) : Prop where
  ex : ∃ (a c : Int) (v6 v11 v12 : Option D), e = f a c v6 v11 v12 ∧ Bi (n + 70 * m) a b c
theorem pairs_sort {ls : List (List Str)} : (ls.map fun L => PyData.tuple [sD (sortS L), .bool true]) = ((ls.map sortS).map fun L => PyData.tuple [sD L, .bool true]) := by
  rw [List.map_map]
  rfl
local macro_rules | `(tactic| walk_at "SD.P06z") => `(tactic| first
  | omega
  | (simp only [List.length_map, List.length_append, List.length_cons, List.length_nil, List.length_drop, List.length_take, List.length_dropLast, List.length_singleton, List.length_eraseIdx, List.length_zipIdx, List.length_range, List.length_range', List.length_reverse, List.length_set]; omega)
  | (with_reducible assumption))
local macro_rules | `(tactic| walk_at "CLEAN.P06z") => `(tactic| dsimp only [rd, rds, sget, sset, fz, fzs, fzP, flt, store, stores, svOf, comps, mNames, back, backs, Ob.rv, Ob.kind, pars, par, fzIO, putOuts, outsOf, okSlots, pick, wipeE, restE, frT, List.map, List.append_nil, List.nil_append, List.cons_append, List.replicate, Option.bind_some, bD, iD, if_true, reduceIte, List.getElem?_cons_zero, List.getElem?_cons_succ])
local macro_rules | `(tactic| walk_at "CL.P06z") => `(tactic| try (dsimp only [rd, rds, sget, sset, fz, fzs, fzP, flt, store, stores, svOf, comps, mNames, back, backs, Ob.rv, Ob.kind, pars, par, fzIO, putOuts, outsOf, okSlots, pick, wipeE, restE, frT, Option.map_some, List.map, List.append_nil, List.nil_append, List.cons_append, List.replicate, Option.bind_some, bD, iD, if_true, reduceIte, List.getElem?_cons_zero, List.getElem?_cons_succ]))
local macro_rules | `(tactic| walk_at "OP.P06z") => `(tactic| first
  | (with_reducible assumption)
  | (apply_rules (transparency := .reducible) (maxDepth := 1) only [in_tup, in_lst, in_set, in_dic, ix_list0, ix_list1, ix_tup0, ix_tup1, o_eqI, o_neI, ix_evI, ix_evC, ix_evO, o_eqII, o_eqOI, o_eqIO, o_eqOO, o_neNilI, o_eqNilI, o_rev, o_isB, strsOf_strs])
  | ((with_reducible refine o_addS ?_); walk_at "SD.P06z")
  | ((with_reducible refine o_addT ?_); walk_at "SD.P06z")
  | ((with_reducible refine o_addL ?_); walk_at "SD.P06z")
  | ((with_reducible refine f_append ?_); walk_at "SD.P06z")
  | ((with_reducible refine o_div ?_ ?_) <;> walk_at "SD.P06z")
  | ((with_reducible refine o_mod ?_); walk_at "SD.P06z")
  | (with_reducible refine o_eqS (by first | assumption | exact ok_in | exact ok_out) (by first | assumption | exact ok_in | exact ok_out))
  | ((with_reducible refine o_ixS ?_ ?_) <;> walk_at "SD.P06z")
  | ((with_reducible refine o_ixT ?_ ?_) <;> walk_at "SD.P06z")
  | ((with_reducible refine f_setS ?_ ?_) <;> walk_at "SD.P06z")
  | ((with_reducible refine o_minL ?_); walk_at "SD.P06z")
  | ((with_reducible refine o_neNil ?_); (with_reducible assumption))
  | ((with_reducible refine o_eqNil ?_); (with_reducible assumption))
  | ((with_reducible refine f_popAt ?_ ?_ ?_) <;> walk_at "SD.P06z")
  | ((with_reducible assumption))
  | ((with_reducible exact o_dictT))
  | ((with_reducible exact o_sortT))
  | ((with_reducible refine o_ixL ?_ ?_) <;> walk_at "SD.P06z")
  | ((with_reducible refine lend_ok ?_); (first | (simp only [nlP, nlM, nlO, nl, nls, nls_strs, nl_sD, nl_setR, Bool.and_self]; done) | (simp [nlP, nlM, nlO, nl, nls, nls_strs, nl_setR]; done)))
  | ((fail_if_success (with_reducible apply may_pop)); exact rfl)
  | (exact store_om rfl rfl)
  | (exact store_oo rfl rfl)
  | walk_at "SD.P06z")
local macro_rules | `(tactic| walk_at "EV1.P06z") => `(tactic| (first
  | (apply_rules (transparency := .reducible) (maxDepth := 500) only [u_thn, u_thnR, u_turn, u_turnR, u_finN, u_finR, u_inx, u_seq, u_ifS, u_skip, u_asgF, u_asg, u_asgT, u_idx, u_listR, u_ssI, u_ss, u_drop, u_ret, u_retN, u_retT, u_par, u_setIx, u_for, u_break, u_cont, u_c, u_newT, u_m1, u_m2, u_nil, u_cons, u_mB, u_tup, u_lst, u_test, u_tru, u_yes, u_andT, u_orT, u_notT, u_and, u_or, u_not, u_if, u_chain, u_noP, u_P, u_sl, u_meth, u_isi, u_isi2, u_call, u_callK, u_iter, u_enum, u_range1, u_range2, sp_tt, sp_ff, Exists.intro])
  | ((with_reducible refine u_mayVar ?_); first | (refine u_var rfl ?_) | (refine u_varO rfl ?_))
  | ((with_reducible refine u_mayWG ?_); first | (refine u_g (by first | (walk_at "CLEAN.P06z"; exact rfl) | (walk_at "CLEAN.P06z"; done) | exact store_om rfl rfl | exact store_oo rfl rfl) ?_) | (refine u_gs (by first | (walk_at "CLEAN.P06z"; exact rfl) | (walk_at "CLEAN.P06z"; done)) ?_))
  | ((with_reducible refine sp_dt ?_ ?_); focus (first | assumption | omega))
  | ((with_reducible refine sp_df ?_ ?_); focus (first | assumption | omega))
  | ((with_reducible refine sp_et ?_ ?_); focus (first | assumption | omega))
  | ((with_reducible refine sp_ndt ?_ ?_); focus (first | assumption | omega))
  | ((with_reducible refine sp_ndf ?_ ?_); focus (first | assumption | omega))
  | ((with_reducible refine sp_ef ?_ ?_); focus (first | assumption | omega))
  | (with_reducible refine sp_t (by assumption) ?_)
  | (with_reducible refine sp_f (by assumption) ?_)
  | (with_reducible refine sp_nt (by first | assumption | rfl) ?_)
  | (with_reducible refine sp_nf (by first | assumption | rfl) ?_)
  | (with_reducible refine sp_d (fun hb => ?_) (fun hb => ?_))
  | (with_reducible refine sp_nd (fun hb => ?_) (fun hb => ?_))
  | (with_reducible refine sp_e (fun hb => ?_) (fun hb => ?_))
  | (with_reducible refine sp_ne (fun hb => ?_) (fun hb => ?_))
  | (with_reducible refine sp_xf (fun hb => ?_) (fun hb => ?_))
  | (with_reducible refine sp_xt (fun hb => ?_) (fun hb => ?_))
  | (with_reducible refine sp_b (fun hb => ?_) (fun hb => ?_))
  | ((with_reducible refine u_mayWF ?_); (try (first | (with_reducible refine u_svs1 ?_) | (with_reducible refine u_svs2 ?_) | (with_reducible refine u_svs3 ?_) | (with_reducible refine u_svs4 ?_) | (with_reducible refine u_svs5 ?_) | (with_reducible refine u_svs6 ?_) | (with_reducible refine u_svs7 ?_) | (with_reducible refine u_svs8 ?_))); (first | ((with_reducible refine w_take (by assumption) ?_ ?_ ?_ ?_); (walk_at "SD.P06z"); (walk_at "SD.P06z"); (walk_at "SD.P06z"); intro r a1 c1 h1 h2 h3; try simp only [List.length_map, List.length_append, List.length_cons, List.length_nil] at h3) | ((with_reducible refine w_cell ?_ ?_); (walk_at "SD.P06z"); intro cell) | ((with_reducible refine w_bag ?_ ?_); (walk_at "SD.P06z"); intro a b c bi) | ((with_reducible refine w_few (by assumption) ?_ ?_ ?_); (walk_at "SD.P06z"); (walk_at "SD.P06z"); intro l es ls a1 c1 dr A hls bi) | ((with_reducible refine w_folk ?_ ?_ ?_); (walk_at "SD.P06z"); (walk_at "SD.P06z")) | fail))
  | ((with_reducible refine And.intro ?_ ?_); focus (first | (walk_at "CLEAN.P06z"; walk_at "OP.P06z"; done) | (walk_at "CLEAN.P06z"; done) | (walk_at "OP.P06z"; done)))
  | fail))
local macro_rules | `(tactic| walk_at "EV.P06z") => `(tactic| repeat' (first | walk_at "EV1.P06z" | fail))
local macro_rules | `(tactic| walk_at "CE.P06z") => `(tactic| try (dsimp only [sset, wipeE, restE, List.map, List.cons_append, List.nil_append, List.append_nil, List.replicate]))
theorem l6_A {ns : List Int} {i : Nat} {e : Env} (hns : ns.length ≤ 63) (hi5 : i < 20) (hi : L6I ns e) (q : ∀ e, L6I ns e → QS (.nx e)) : WG (store 1) (.d (.int (i : Nat))) e fun e => WS l6A e QS := by
  obtain ⟨v2, v4, v9, v1, v3, v5, v6, v7, v8, v10, v11, v12, rfl⟩ := hi
  unfold l6A
  generalize hT : l6T = T
  generalize hB : l6B = B
  walk_at "EV.P06z"
  refine ⟨_, stores3 (store_om rfl rfl) (store_oo rfl rfl) (store_om rfl rfl), ?_⟩
  rename_i cell a b c bi0 l es ls a1 c1 dr A hls bi
  have hl := dr.ll
  have he := dr.el
  have ha := arr_len es
  have hp := A.pos
  have V := dr.vl
  have orp := o_repr (log_shown (fun c hc => ⟨V.car c (List.mem_append_right _ (List.mem_filterMap.mpr ⟨some c, hc, rfl⟩)), V.ok c (List.mem_append_right _ (List.mem_filterMap.mpr ⟨some c, hc, rfl⟩))⟩) V.el)
  walk_at "EV.P06z"
  refine u_filtW sD ls (fun _ => true) (fun L => .tuple [sD (sortS L), .bool true]) ?_
  walk_at "EV.P06z"
  have hf : ls.filter (fun _ => true) = ls := List.filter_eq_self.mpr fun _ _ => rfl
  rw [hf, pairs_sort]
  refine ⟨fun x hx => ?_, by omega, ?_⟩
  · refine u_g (store_om (o := none) rfl rfl) ?_
    refine ⟨true, _, rfl, rfl, fun _ => ?_, fun h => by cases h⟩
    walk_at "EV.P06z"
    all_goals first | rfl | (refine ⟨rfl, rfl⟩)
  walk_at "EV.P06z"
  refine u_forI (fun m e => L6V 700 (fun a c v6 v11 v12 => e6 ns (.int (i : Nat)) a b c l es ls v6 v7 v11 v12) b m e) _ ?_ ?_ ?_
  · exact ⟨a1, c1, v6, v11, v12, rfl, bi.mono (by omega)⟩
  · intro m x e hx hi
    obtain ⟨hm, rfl⟩ := rangeD_at hx
    have hm16 : m < 16 := hm
    obtain ⟨a4, c4, v6, v11, v12, rfl, bi4⟩ := hi
    refine u_g (store_om rfl rfl) ?_
    subst hT
    refine l6_T (ns := ns) (k := .int (i : Nat)) (n := 700 + 70 * m) (v6 := some (.int (m : Nat))) (v7 := v7) (v11 := v11) (v12 := v12) bi4 (by omega) dr A hls fun a5 c5 v11 v12 bi5 => ?_
    refine u_turn ?_
    exact ⟨a5, c5, some _, v11, v12, rfl, bi5.mono (by omega)⟩
  · intro e hi
    obtain ⟨a4, c4, v6, v11, v12, rfl, bi4⟩ := hi
    have h16 : (rangeD 0 (16 : Int).toNat).length = 16 := by simp [rangeD]
    refine u_thn ?_
    subst hB
    exact l6_B (ns := ns) (k := .int (i : Nat)) (n := 700 + 70 * (rangeD 0 (16 : Int).toNat).length) (v6 := v6) (v7 := v7) (v11 := v11) (v12 := v12) bi4 (by omega) dr A hls q
theorem can0 : fn_can_stay [.d (.tuple []), .d (.list []), .d (.tuple [])] = some (.d (.bool true), [none, none, none]) := by kernel_rfl
theorem can1 : fn_can_stay [.d (.tuple [.str "a"]), .d (.list [.tuple [.str "out"]]), .d (.tuple [.str "a"])] = some (.d (.bool false), [none, none, none]) := by kernel_rfl
theorem w_can0 (q : Q (.d (.bool true)) [none, none, none]) : WF fn_can_stay [.d (.tuple []), .d (.list []), .d (.tuple [])] Q := .of can0 q
theorem w_can1 (q : Q (.d (.bool false)) [none, none, none]) : WF fn_can_stay [.d (.tuple [.str "a"]), .d (.list [.tuple [.str "out"]]), .d (.tuple [.str "a"])] Q := .of can1 q
theorem o_isBT : oIsB (.d (.bool true)) (.d (.bool true)) = some (.d (.bool true)) := rfl
theorem o_isBF : oIsB (.d (.bool false)) (.d (.bool false)) = some (.d (.bool true)) := rfl
end
end Ol
set_option Elab.async false
set_option linter.all false
set_option maxRecDepth 100000
set_option maxHeartbeats 4000000
/-! k06: the law, whole -/
namespace Ol
open PySem PySem.Spec PyProof.Rows L2
local macro_rules | `(tactic| walk_at "SD.P06zb") => `(tactic| first
  | omega
  | (simp only [List.length_map, List.length_append, List.length_cons, List.length_nil, List.length_drop, List.length_take, List.length_dropLast, List.length_singleton, List.length_eraseIdx, List.length_zipIdx, List.length_range, List.length_range', List.length_reverse, List.length_set]; omega)
  | (with_reducible assumption))
local macro_rules | `(tactic| walk_at "CLEAN.P06zb") => `(tactic| dsimp only [rd, rds, sget, sset, fz, fzs, fzP, flt, store, stores, svOf, comps, mNames, back, backs, Ob.rv, Ob.kind, pars, par, fzIO, putOuts, outsOf, okSlots, pick, wipeE, restE, frT, List.map, List.append_nil, List.nil_append, List.cons_append, List.replicate, Option.bind_some, bD, iD, if_true, reduceIte, List.getElem?_cons_zero, List.getElem?_cons_succ])
local macro_rules | `(tactic| walk_at "CL.P06zb") => `(tactic| try (dsimp only [rd, rds, sget, sset, fz, fzs, fzP, flt, store, stores, svOf, comps, mNames, back, backs, Ob.rv, Ob.kind, pars, par, fzIO, putOuts, outsOf, okSlots, pick, wipeE, restE, frT, Option.map_some, List.map, List.append_nil, List.nil_append, List.cons_append, List.replicate, Option.bind_some, bD, iD, if_true, reduceIte, List.getElem?_cons_zero, List.getElem?_cons_succ]))
local macro_rules | `(tactic| walk_at "OP.P06zb") => `(tactic| first
  | (with_reducible assumption)
  | (apply_rules (transparency := .reducible) (maxDepth := 1) only [in_tup, in_lst, in_set, in_dic, ix_list0, ix_list1, ix_tup0, ix_tup1, o_eqI, o_neI, ix_evI, ix_evC, ix_evO, o_eqII, o_eqOI, o_eqIO, o_eqOO, o_neNilI, o_eqNilI, o_rev, o_isB, strsOf_strs])
  | ((with_reducible refine o_addS ?_); walk_at "SD.P06zb")
  | ((with_reducible refine o_addT ?_); walk_at "SD.P06zb")
  | ((with_reducible refine o_addL ?_); walk_at "SD.P06zb")
  | ((with_reducible refine f_append ?_); walk_at "SD.P06zb")
  | ((with_reducible refine o_div ?_ ?_) <;> walk_at "SD.P06zb")
  | ((with_reducible refine o_mod ?_); walk_at "SD.P06zb")
  | (with_reducible refine o_eqS (by first | assumption | exact ok_in | exact ok_out) (by first | assumption | exact ok_in | exact ok_out))
  | ((with_reducible refine o_ixS ?_ ?_) <;> walk_at "SD.P06zb")
  | ((with_reducible refine o_ixT ?_ ?_) <;> walk_at "SD.P06zb")
  | ((with_reducible refine f_setS ?_ ?_) <;> walk_at "SD.P06zb")
  | ((with_reducible refine o_minL ?_); walk_at "SD.P06zb")
  | ((with_reducible refine o_neNil ?_); (with_reducible assumption))
  | ((with_reducible refine o_eqNil ?_); (with_reducible assumption))
  | ((with_reducible refine f_popAt ?_ ?_ ?_) <;> walk_at "SD.P06zb")
  | ((with_reducible assumption))
  | ((with_reducible exact o_isBT))
  | ((with_reducible exact o_isBF))
  | ((with_reducible refine lend_ok ?_); (first | (simp only [nlP, nlM, nlO, nl, nls, nls_strs, nl_sD, nl_setR, Bool.and_self]; done) | (simp [nlP, nlM, nlO, nl, nls, nls_strs, nl_setR]; done)))
  | ((fail_if_success (with_reducible apply may_pop)); exact rfl)
  | (exact store_om rfl rfl)
  | (exact store_oo rfl rfl)
  | walk_at "SD.P06zb")
local macro_rules | `(tactic| walk_at "EV1.P06zb") => `(tactic| (first
  | (apply_rules (transparency := .reducible) (maxDepth := 500) only [u_thn, u_thnR, u_turn, u_turnR, u_finN, u_finR, u_inx, u_seq, u_ifS, u_skip, u_asgF, u_asg, u_asgT, u_idx, u_listR, u_ssI, u_ss, u_drop, u_ret, u_retN, u_retT, u_par, u_setIx, u_for, u_break, u_cont, u_c, u_newT, u_m1, u_m2, u_nil, u_cons, u_mB, u_tup, u_lst, u_test, u_tru, u_yes, u_andT, u_orT, u_notT, u_and, u_or, u_not, u_if, u_chain, u_noP, u_P, u_sl, u_meth, u_isi, u_isi2, u_call, u_callK, u_iter, u_enum, u_range1, u_range2, sp_tt, sp_ff, Exists.intro])
  | ((with_reducible refine u_mayVar ?_); first | (refine u_var rfl ?_) | (refine u_varO rfl ?_))
  | ((with_reducible refine u_mayWG ?_); first | (refine u_g (by first | (walk_at "CLEAN.P06zb"; exact rfl) | (walk_at "CLEAN.P06zb"; done) | exact store_om rfl rfl | exact store_oo rfl rfl) ?_) | (refine u_gs (by first | (walk_at "CLEAN.P06zb"; exact rfl) | (walk_at "CLEAN.P06zb"; done)) ?_))
  | ((with_reducible refine sp_dt ?_ ?_); focus (first | assumption | omega))
  | ((with_reducible refine sp_df ?_ ?_); focus (first | assumption | omega))
  | ((with_reducible refine sp_et ?_ ?_); focus (first | assumption | omega))
  | ((with_reducible refine sp_ndt ?_ ?_); focus (first | assumption | omega))
  | ((with_reducible refine sp_ndf ?_ ?_); focus (first | assumption | omega))
  | ((with_reducible refine sp_ef ?_ ?_); focus (first | assumption | omega))
  | (with_reducible refine sp_t (by assumption) ?_)
  | (with_reducible refine sp_f (by assumption) ?_)
  | (with_reducible refine sp_nt (by first | assumption | rfl) ?_)
  | (with_reducible refine sp_nf (by first | assumption | rfl) ?_)
  | (with_reducible refine sp_d (fun hb => ?_) (fun hb => ?_))
  | (with_reducible refine sp_nd (fun hb => ?_) (fun hb => ?_))
  | (with_reducible refine sp_e (fun hb => ?_) (fun hb => ?_))
  | (with_reducible refine sp_ne (fun hb => ?_) (fun hb => ?_))
  | (with_reducible refine sp_xf (fun hb => ?_) (fun hb => ?_))
  | (with_reducible refine sp_xt (fun hb => ?_) (fun hb => ?_))
  | (with_reducible refine sp_b (fun hb => ?_) (fun hb => ?_))
  | ((with_reducible refine u_mayWF ?_); (try (first | (with_reducible refine u_svs1 ?_) | (with_reducible refine u_svs2 ?_) | (with_reducible refine u_svs3 ?_) | (with_reducible refine u_svs4 ?_) | (with_reducible refine u_svs5 ?_) | (with_reducible refine u_svs6 ?_) | (with_reducible refine u_svs7 ?_) | (with_reducible refine u_svs8 ?_))); (first | ((with_reducible refine w_can0 ?_)) | ((with_reducible refine w_can1 ?_)) | fail))
  | ((with_reducible refine And.intro ?_ ?_); focus (first | (walk_at "CLEAN.P06zb"; walk_at "OP.P06zb"; done) | (walk_at "CLEAN.P06zb"; done) | (walk_at "OP.P06zb"; done)))
  | fail))
local macro_rules | `(tactic| walk_at "EV.P06zb") => `(tactic| repeat' (first | walk_at "EV1.P06zb" | fail))
local macro_rules | `(tactic| walk_at "CE.P06zb") => `(tactic| try (dsimp only [sset, wipeE, restE, List.map, List.cons_append, List.nil_append, List.append_nil, List.replicate]))
theorem law_w (ns : List Int) (h : ns.length ≤ 63) : WF fn_law [.d (.list (ns.map .int))] fun r outs => r = .d (.bool true) ∧ outs = [none] := by
  refine u_fn rfl ?_
  rw [law_is]
  have hT := fun i e QS h1 h2 q => @l6_A QS ns i e h h1 h2 q
  generalize l6A = T at *
  walk_at "EV.P06zb"
  rw [List.length_map]
  generalize hj : (if (if (ns.length : Int) < 4 then (ns.length : Int) else 4) > 1 then (if (ns.length : Int) < 4 then (ns.length : Int) else 4) else 1 : Int) = j
  have hj5 : j ≤ 4 := by rw [← hj]; split <;> split <;> omega
  refine u_forI (fun _ e => L6I ns e) _ ?_ ?_ ?_
  · exact ⟨none, none, none, none, none, none, none, none, none, none, none, none, rfl⟩
  · intro i x e hx hi
    obtain ⟨hi5, rfl⟩ := rangeD_at hx
    exact hT i e _ (by omega) hi fun e he => he
  · intro e hi
    obtain ⟨v2, v4, v9, v1, v3, v5, v6, v7, v8, v10, v11, v12, rfl⟩ := hi
    walk_at "EV.P06zb"
    · rfl
    · rename_i h2
      exact absurd rfl h2
theorem pure_law (ns : List Int) (h : ns.length ≤ 63) : fn_law [.d (.list (ns.map .int))] = some (.d (.bool true), [none]) := by
  obtain ⟨r, outs, h1, rfl, rfl⟩ := law_w ns h
  exact h1
end Ol
namespace Ol
open PySem PySem.Spec PyProof.Rows L2
def spLaw (K : Fg) : Sp := fun vs H Q _ => ∃ (a : Addr) (ns : List Int), vs = [.ref a] ∧ SqL K H a (ns.map V.int) ∧ ns.length ≤ 63 ∧ ∀ H', Q (.bl true) H'
theorem facts {P : Program} {w : World} {K : Fg} {h : Heap} {mg : Str → Option Value} {fl : Addr} (X : K.In h) (Gn : h.Ns mainGlobals mg) (hfa : mg ("law" : Str) = some (.ref fl)) (c : He.SaysD fa fn K) :
    ∃ fd : FuncData, (∀ (s : Shared) (v : Value), BindsTo s fd ⟨[v], []⟩ [("script", v)]) ∧ ∀ base : Heap, FnG P w K mg base L2.CX0 20 fl fd ["script"] (spLaw K) := by
  have e := hfa.symm.trans (He.glo_ok X Gn (c.fact 27 (f := .glo "law") rfl))
  cases e
  obtain ⟨fd, F⟩ := c.def_ 27 (d := dd "law" 40) rfl
  have b := FunD.bindsA (ps := ["script"]) F fun _ _ _ _ _ _ us hl => match us, hl with | [_], _ => rfl
  have G := gb c X Gn
  refine ⟨fd, fun s v => b s [v] rfl, fun base => ?_⟩
  have s_is_car := w_is_car (P := P) (w := w) (base := base) c X Gn G 
  have s_is_lane := w_is_lane (P := P) (w := w) (base := base) c X Gn G s_is_car
  have s_is_arrival := w_is_arrival (P := P) (w := w) (base := base) c X Gn G s_is_car
  have s_is_departure := w_is_departure (P := P) (w := w) (base := base) c X Gn G 
  have s_check_lane := w_check_lane (P := P) (w := w) (base := base) c X Gn G s_is_lane
  have s_is_log_for := w_is_log_for (P := P) (w := w) (base := base) c X Gn G s_is_arrival s_is_departure
  have s_check_log := w_check_log (P := P) (w := w) (base := base) c X Gn G s_check_lane s_is_log_for
  have s_count_sizes := w_count_sizes (P := P) (w := w) (base := base) c X Gn G 
  have s_car_numbers := w_car_numbers (P := P) (w := w) (base := base) c X Gn G 
  have s_check_cars := w_check_cars (P := P) (w := w) (base := base) c X Gn G s_car_numbers s_is_car
  have s_check_all := w_check_all (P := P) (w := w) (base := base) c X Gn G s_check_lane s_check_log s_check_cars
  have s_count_departures := w_count_departures (P := P) (w := w) (base := base) c X Gn G 
  have s_arriving_positions := w_arriving_positions (P := P) (w := w) (base := base) c X Gn G 
  have s_first_shortage := w_first_shortage (P := P) (w := w) (base := base) c X Gn G s_count_sizes
  have s_set_reason := w_set_reason (P := P) (w := w) (base := base) c X Gn G s_first_shortage s_arriving_positions s_count_sizes s_count_departures
  obtain ⟨s_can_stay, k_can_stay_0⟩ := w_can_stay (P := P) (w := w) (base := base) c X Gn G s_check_all s_set_reason
  have s_why_cannot_stay := w_why_cannot_stay (P := P) (w := w) (base := base) c X Gn G s_check_all s_set_reason
  have s__law_cell_at := w__law_cell_at (P := P) (w := w) (base := base) c X Gn G 
  have s__law_bag := w__law_bag (P := P) (w := w) (base := base) c X Gn G 
  have s__law_take := w__law_take (P := P) (w := w) (base := base) c X Gn G 
  have s__law_names := w__law_names (P := P) (w := w) (base := base) c X Gn G s__law_take
  have s__law_built := w__law_built (P := P) (w := w) (base := base) c X Gn G s__law_names s__law_take
  have s__law_step := w__law_step (P := P) (w := w) (base := base) c X Gn G 
  have s__law_few := w__law_few (P := P) (w := w) (base := base) c X Gn G s__law_built s__law_step
  have s__law_folk := w__law_folk (P := P) (w := w) (base := base) c X Gn G 
  have s__law_set := w__law_set (P := P) (w := w) (base := base) c X Gn G s__law_take
  have s__law_truth := w__law_truth (P := P) (w := w) (base := base) c X Gn G 
  have S : FnScope (["script", "k", "bag", "folk", "known", "kept", "turn", "line", "initial", "entries", "lines", "some", "due"] : List Str) ["script"] (dd "law" 40).scope := ⟨rfl, rfl, rfl, by decide +kernel, rfl, by decide +kernel, by decide +kernel⟩
  have ok : FnG P w K mg base L2.CX0 7 (He.ga K "law") fd ["script"] (spI ⟨K, P, w⟩ fn_law) := wl_law c X Gn G F S s__law_bag s__law_few s__law_folk s__law_cell_at s__law_set s__law_take s_can_stay s__law_truth s_why_cannot_stay k_can_stay_0
  exact fnG_law (ok.mono (by decide)) fun vs H Q E q => by
    obtain ⟨a, ns, e, hs, hl, hq⟩ := q
    exact ⟨a, ns, e, hs, pure_law ns hl, hq⟩
end Ol
open PySem PySem.W PySem.Calls PyProof.Rows
theorem PySem.Challenge.cw_openlane_k06_sets_by_all_histories_holds : PySem.Challenge.rw_openlane_k06_sets_by_all_histories.Holds := by
  refine Ol.j06_fin fun w mg f h Y G hm => ?_
  obtain ⟨K, KX, c⟩ := Y
  obtain ⟨fd, hb, hF⟩ := Ol.facts (P := (PySem.Challenge.rw_openlane_k06_sets_by_all_histories).prog) (w := w) KX G hm c
  exact ⟨K, fd, Ol.spLaw K, KX, hb, fun H a ns hl _ hS => ⟨a, ns, rfl, hS, hl, fun _ => rfl⟩, fun base _ _ => hF base⟩
