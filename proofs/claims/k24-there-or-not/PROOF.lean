import PyProof.Rows.All
import Wide.All
import OpenK.AllK
import Wide.FinOn
import HandS.ForMost
import PyProof.EqAt
import PyProof.EqKinds
import HandS.More
import HandS.SetFor
import HandS.SetKeys
import HandS.Set
import PyProof.FString2
import HandS.ForExc
import HandS.FStr
import HandS.RaiseMore
import HandS.Defaults
import HandS.ExcIs
import HandS.NoneIn
import HandS.Style
import HandS.IsInst
import HandS.Deep
import PySem.Challenge.RW_mailroom_k24_there_or_not
set_option Elab.async false
set_option linter.all false
set_option maxRecDepth 100000
/-! K24A: the plain mathematics: sorted lists of texts are told apart by what they hold; the drawn names are good. -/
namespace K24
open PySem PySem.Spec PyProof.Rows L2

/-! ### sorted texts -/
def leS (a b : Str) : Prop := a.cps.toList ≤ b.cps.toList
theorem leS_of_not {a b : Str} (h : ltCps b.cps.toList a.cps.toList = false) : leS a b := by
  rw [ltCps_eq] at h
  exact fun z => of_decide_eq_false h z
theorem rising_pw : ∀ (r : List Str) (p : Str), risingS p r = true → (p :: r).Pairwise leS
  | [], p, _ => List.pairwise_singleton _ _
  | x :: r, p, h => by
    obtain ⟨h1, h2⟩ := Bool.and_eq_true_iff.mp (show (!ltCps x.cps.toList p.cps.toList && risingS x r) = true from h)
    have ih := rising_pw r x h2
    have px : leS p x := leS_of_not (by simpa using h1)
    refine List.pairwise_cons.mpr ⟨fun y hy => ?_, ih⟩
    rcases List.mem_cons.mp hy with e | hy
    · rw [e]; exact px
    · exact List.le_trans px ((List.pairwise_cons.mp ih).1 y hy)
theorem sorted_pw : ∀ {l : List Str}, sortedS l = true → l.Pairwise leS
  | [], _ => List.Pairwise.nil
  | x :: r, h => rising_pw r x h
theorem leS_anti {a b : Str} (h : leS a b) (h' : leS b a) : a = b := by
  have e : a.cps.toList = b.cps.toList := List.le_antisymm h h'
  obtain ⟨x⟩ := a
  obtain ⟨y⟩ := b
  exact congrArg Str.mk (Array.toList_inj.mp e)
/-- two sorted lists of the same texts are one -/
theorem sorted_one {xs ys zs : List Str} (hy : ys.Perm xs) (hz : zs.Perm xs) (sy : sortedS ys = true) (sz : sortedS zs = true) : ys = zs :=
  List.Perm.eq_of_pairwise (le := leS) (fun _ _ _ _ h h' => leS_anti h h') (sorted_pw sy) (sorted_pw sz) (hy.trans hz.symm)

/-! ### the names -/
def tZ : Str := "zother"
def tF : Str := "zfresh"
def tR : Str := "rent"
structure Good (x : Str) : Prop where
  ne : x ≠ Str.empty
  le : x.length ≤ 20
  nz : x ≠ tZ
  nf : x ≠ tF
  ok : PyData.strOk x = true
/-- the signs of a word, by their place -/
def sg (i : Nat) : Nat := ([97, 98, 99, 100, 101, 102, 103, 104, 105, 106, 107, 108, 109, 110, 111, 112, 113, 114, 115, 116, 117, 118, 119, 120, 121, 122, 48, 49, 50, 51, 52, 53, 54, 55, 56, 57] : List Nat).getD i 0
def tSigns : Str := "abcdefghijklmnopqrstuvwxyz0123456789"
theorem signs_len : tSigns.length = 36 := by decide +kernel
theorem signs_get' : ∀ i : _root_.Fin 36, tSigns.cps[i.val]? = some (sg i.val) := by decide +kernel
theorem signs_get {i : Nat} (h : i < 36) : tSigns.cps[i]? = some (sg i) := signs_get' ⟨i, h⟩
/-- a text made sign by sign -/
def nm (c : Nat → Nat) (n : Nat) : Str := ⟨((List.range n).map c).toArray⟩
theorem nm_zero (c : Nat → Nat) : nm c 0 = Str.empty := rfl
theorem nm_succ (c : Nat → Nat) (n : Nat) : nm c (n + 1) = nm c n ++ (⟨#[c n]⟩ : Str) := by
  show nm c (n + 1) = Str.append (nm c n) ⟨#[c n]⟩
  unfold nm Str.append
  rw [List.range_succ, List.map_append]
  simp
theorem nm_len (c : Nat → Nat) (n : Nat) : (nm c n).length = n := by
  show ((List.range n).map c).toArray.size = n
  simp
theorem nm_congr {c d : Nat → Nat} {n : Nat} (h : ∀ i, i < n → c i = d i) : nm c n = nm d n := by
  unfold nm
  rw [List.map_congr_left fun i hi => h i (List.mem_range.mp hi)]
/-- which sign stands at a place, told of a text -/
theorem nm_at {c : Nat → Nat} {n : Nat} {l : List Nat} (h : nm c n = ⟨l.toArray⟩) : n = l.length ∧ ∀ i, i < n → c i = l.getD i 0 := by
  have e : (List.range n).map c = l := by
    have q := congrArg (fun s : Str => s.cps.toList) h
    simpa [nm] using q
  subst e
  refine ⟨by simp, fun i hi => ?_⟩
  rw [List.getD_eq_getElem?_getD]
  simp [hi]
theorem tZ_is : tZ = ⟨([122, 111, 116, 104, 101, 114] : List Nat).toArray⟩ := by decide +kernel
theorem tF_is : tF = ⟨([122, 102, 114, 101, 115, 104] : List Nat).toArray⟩ := by decide +kernel
theorem noZ : ∀ (p : _root_.Fin 5) (y : _root_.Fin 36) (m : _root_.Fin 7), ∃ t : _root_.Fin 6, t.val ≠ p.val ∧ t.val ≠ p.val + 1 ∧ sg ((y.val + t.val * (m.val + 1)) % 36) ≠ ([122, 111, 116, 104, 101, 114] : List Nat).getD t.val 0 := by decide +kernel
theorem noF : ∀ (p : _root_.Fin 5) (y : _root_.Fin 36) (m : _root_.Fin 7), ∃ t : _root_.Fin 6, t.val ≠ p.val ∧ t.val ≠ p.val + 1 ∧ sg ((y.val + t.val * (m.val + 1)) % 36) ≠ ([122, 102, 114, 101, 115, 104] : List Nat).getD t.val 0 := by decide +kernel
theorem nm_ok {c : Nat → Nat} {n : Nat} (h : ∀ t, t < n → c t < 1000) : PyData.strOk (nm c n) = true := by
  show ((List.range n).map c).toArray.all (fun i => decide (i < 0x110000)) = true
  rw [List.all_toArray, List.all_map]
  refine List.all_eq_true.mpr fun t ht => ?_
  have := h t (List.mem_range.mp ht)
  exact decide_eq_true (Nat.lt_trans this (by decide))
theorem sg_lt (i : Nat) : sg i < 1000 := by
  by_cases h : i < 36
  · exact (show ∀ i : _root_.Fin 36, sg i.val < 1000 by decide +kernel) ⟨i, h⟩
  · unfold sg
    rw [List.getD_eq_getElem?_getD, List.getElem?_eq_none (by show 36 ≤ i; omega)]
    decide
/-- a name whose signs but two go up by even steps -/
theorem good_nm {c : Nat → Nat} {n p y m : Nat} (hn : p + 2 ≤ n) (hn' : n ≤ 20) (hy : y < 36) (hm : m < 7) (hc : ∀ t, t < n → t ≠ p → t ≠ p + 1 → c t = sg ((y + t * (m + 1)) % 36)) (ho : ∀ t, t < n → c t < 1000) : Good (nm c n) := by
  refine ⟨fun e => ?_, by rw [nm_len]; exact hn', fun e => ?_, fun e => ?_, nm_ok ho⟩
  · have q := congrArg Str.length e
    rw [nm_len] at q
    have q' : n = 0 := q
    omega
  · rw [tZ_is] at e
    obtain ⟨h6, h⟩ := nm_at e
    have h6 : n = 6 := h6
    obtain ⟨t, t1, t2, t3⟩ := noZ ⟨p, by omega⟩ ⟨y, hy⟩ ⟨m, hm⟩
    have ht : t.val < n := by have := t.isLt; omega
    exact t3 ((hc t.val ht t1 t2).symm.trans (h t.val ht))
  · rw [tF_is] at e
    obtain ⟨h6, h⟩ := nm_at e
    have h6 : n = 6 := h6
    obtain ⟨t, t1, t2, t3⟩ := noF ⟨p, by omega⟩ ⟨y, hy⟩ ⟨m, hm⟩
    have ht : t.val < n := by have := t.isLt; omega
    exact t3 ((hc t.val ht t1 t2).symm.trans (h t.val ht))
/-- a name of one sign, several times -/
theorem good_rep {a n : Nat} (ha : a < 1000) (h1 : 1 ≤ n) (h20 : n ≤ 20) : Good (nm (fun _ => a) n) := by
  refine ⟨fun e => ?_, by rw [nm_len]; exact h20, fun e => ?_, fun e => ?_, nm_ok fun _ _ => ha⟩
  · have q := congrArg Str.length e
    rw [nm_len] at q
    have q' : n = 0 := q
    omega
  · rw [tZ_is] at e
    obtain ⟨h6, h⟩ := nm_at e
    have h6 : n = 6 := h6
    have a0 : a = 122 := h 0 (by omega)
    have a1 : a = 111 := h 1 (by omega)
    omega
  · rw [tF_is] at e
    obtain ⟨h6, h⟩ := nm_at e
    have h6 : n = 6 := h6
    have a0 : a = 122 := h 0 (by omega)
    have a1 : a = 102 := h 1 (by omega)
    omega
theorem good_no {x : Str} (h : Good x) : x ≠ "" := fun e => h.ne (e.trans (by decide +kernel))

/-! ### an item's words -/
def wl (x : Str) : List Str := if x = tR then [x] else [x, tR]
theorem wl_nodup (x : Str) : (wl x).Nodup := by
  unfold wl
  split
  · simp
  · rename_i h
    simp [h]
theorem mem_wl {w x : Str} : w ∈ wl x ↔ w = x ∨ w = tR := by
  unfold wl
  split
  · rename_i h
    rw [List.mem_singleton, h]
    simp
  · simp
theorem wl_len (x : Str) : (wl x).length ≤ 2 := by
  unfold wl
  split <;> simp

/-! ### lists without repeats -/
theorem length_le_of_sub {α : Type} [DecidableEq α] : ∀ {ks l : List α}, ks.Nodup → (∀ w ∈ ks, w ∈ l) → ks.length ≤ l.length
  | [], _, _, _ => Nat.zero_le _
  | k :: ks, l, hn, hs => by
    obtain ⟨h1, h2⟩ := List.nodup_cons.mp hn
    have hk : k ∈ l := hs k List.mem_cons_self
    have ih := length_le_of_sub (ks := ks) (l := l.erase k) h2 fun w hw => (List.mem_erase_of_ne (fun e : w = k => h1 (by rw [← e]; exact hw))).mpr (hs w (List.mem_cons_of_mem _ hw))
    rw [List.length_erase_of_mem hk] at ih
    have := List.length_pos_of_mem hk
    rw [List.length_cons]
    omega
/-- all but one -/
def but (x : Str) (l : List Str) : List Str := l.filter fun y => decide (y ≠ x)
theorem mem_but {x y : Str} {l : List Str} : y ∈ but x l ↔ y ∈ l ∧ y ≠ x := by
  unfold but
  rw [List.mem_filter, decide_eq_true_eq]
theorem but_nodup {x : Str} {l : List Str} (h : l.Nodup) : (but x l).Nodup := h.filter _
theorem but_len (x : Str) (l : List Str) : (but x l).length ≤ l.length := List.length_filter_le _ _
theorem but_no {x : Str} {l : List Str} (h : x ∉ l) : but x l = l := List.filter_eq_self.mpr fun y hy => decide_eq_true fun e => h (e ▸ hy)
theorem but_cons_self (x : Str) (l : List Str) : but x (x :: l) = but x l := by
  unfold but
  rw [List.filter_cons_of_neg (by simp)]
theorem but_cons_ne {x y : Str} (l : List Str) (h : y ≠ x) : but x (y :: l) = y :: but x l := by
  unfold but
  rw [List.filter_cons_of_pos (by simpa using h)]
/-- a list's remove: its first place -/
theorem but_erase : ∀ {l : List Str} {x : Str}, l.Nodup → l.erase x = but x l
  | [], _, _ => rfl
  | y :: l, x, h => by
    obtain ⟨h1, h2⟩ := List.nodup_cons.mp h
    by_cases e : y = x
    · subst e
      rw [List.erase_cons_head, but_cons_self, but_no h1]
    · rw [List.erase_cons_tail (by simpa using e), but_cons_ne _ e, but_erase h2]
theorem but_append (x : Str) (l l' : List Str) : but x (l ++ l') = but x l ++ but x l' := List.filter_append ..
end K24
/-! K24S: set(a list of texts), and sorted of it: whatever the order in which the set lies. -/
namespace K24
open PySem PySem.Spec PyProof.Rows L2

def kOf (e : Int × Value) : Str := match e.2 with
  | .str x _ => x
  | _ => Str.empty
/-- the set at a holds the texts of L -/
def QSet (P : Program) (w : World) (h : Heap) (a : Addr) (L : List Str) : Prop :=
  ∃ (o : Obj) (es : Array (Int × Value)) (ep : Nat) (t : SetTable), h.get? a = some o ∧ o.ExactSet ∧ o.data = .set es ep t ∧ ElemsOf (PySem.strKind P w) es.toList ∧
    (es.toList.map kOf).Perm L ∧ es.size < scanBound ∧ t.fits es.size = true ∧ Ris t.place.toList ∧ (w.params.followText "set-order" = true ∨ t.led = true)
section
variable {P : Program} {w : World} {A : Around} {E : Value → Shared → Prop} {s : Shared} {a : Addr} {L : List Str}
theorem QSet.at {h h' : Heap} (R : QSet P w h a L) (k : ∀ o, h.get? a = some o → h'.get? a = some o) : QSet P w h' a L := by
  obtain ⟨o, es, ep, t, ho, r⟩ := R
  exact ⟨o, es, ep, t, k o ho, r⟩
theorem elem_str {l : List (Int × Value)} (g : ElemsOf (PySem.strKind P w) l) {e : Int × Value} (he : e ∈ l) : ∃ tk, e.2 = .str (kOf e) tk := by
  obtain ⟨⟨k, hk, _⟩, _⟩ := g e he
  obtain ⟨tk, q⟩ := Value.isStrOf_shape (x := k) (v := e.2) hk
  refine ⟨tk, ?_⟩
  unfold kOf
  rw [q]
theorem elem_is {l : List (Int × Value)} (g : ElemsOf (PySem.strKind P w) l) {e : Int × Value} (he : e ∈ l) (x : Str) : (PySem.strKind P w).is x e.2 = true ↔ kOf e = x := by
  obtain ⟨tk, q⟩ := elem_str g he
  rw [q]
  show Value.isStrOf x (.str (kOf e) tk) = true ↔ kOf e = x
  simp [Value.isStrOf]
theorem str_is (x : Str) (tk : Tok) : (PySem.strKind P w).is x (.str x tk) = true := by
  show Value.isStrOf x (.str x tk) = true
  simp [Value.isStrOf]

theorem qset_add {x : Str} {tk : Tok} {Q : Bool → Shared → Prop} (R : QSet P w s.heap a L) (room : L.length + 1 < scanBound)
    (hQ : ∀ (h' : Heap) (b : Bool), Heap.SameBut a s.heap h' → QSet P w h' a (if x ∈ L then L else L ++ [x]) → Q b { s with heap := h' }) :
    wpAny (model P w) A (setAddHashed a (.str x tk) ((PySem.strKind P w).hash x)) Q E s := by
  obtain ⟨o, es, ep, t, ho, hex, hd, g, pm0, hb, hf, hr, hl⟩ := R
  have hk := str_is (P := P) (w := w) x tk
  have hs : (Value.str x tk).scannable = true := rfl
  have hin : x ∈ L ↔ ∃ e ∈ es.toList, (PySem.strKind P w).is x e.2 = true := by
    rw [← pm0.mem_iff, List.mem_map]
    constructor
    · rintro ⟨e, he, q⟩
      exact ⟨e, he, (elem_is g he x).mpr q⟩
    · rintro ⟨e, he, q⟩
      exact ⟨e, he, (elem_is g he x).mp q⟩
  unfold setAddHashed setAddHashedIn
  refine wpAny_holding ?_
  refine wpAny_bind (wpAny_setState_of ho hd hf ?_)
  dsimp only
  rw [byScan_of hs hb g]
  simp only [↓reduceIte]
  unfold setAddByScan
  refine wpAny_bind ?_
  refine wpAny_bind (wpAny_rule ?_)
  refine wpAny_bind (wpAny_setScan_of hk ho hd hf g ?_)
  cases hfi : List.findIdx? (fun e => (PySem.strKind P w).is x e.2) es.toList with
  | some j =>
    dsimp only
    obtain ⟨hj, pj, _⟩ := List.findIdx?_eq_some_iff_getElem.mp hfi
    have hx : x ∈ L := hin.mpr ⟨es.toList[j], List.getElem_mem hj, pj⟩
    refine wpAny_pure (wpAny_pure ?_)
    refine hQ s.heap _ (Heap.SameBut.refl a s.heap) ?_
    rw [if_pos hx]
    exact ⟨o, es, ep, t, ho, hex, hd, g, pm0, hb, hf, hr, hl⟩
  | none =>
    dsimp only
    have hx : x ∉ L := fun z => by
      obtain ⟨e, he, q⟩ := hin.mp z
      have c := List.findIdx?_eq_none_iff.mp hfi e he
      rw [q] at c
      cases c
    rw [if_neg hx] at hQ
    have pm := layNew_perm t es ((PySem.strKind P w).hash x) (.str x tk)
    have hf1 := layNew_fits t es ((PySem.strKind P w).hash x) (.str x tk)
    have hr1 := layNew_ris t es ((PySem.strKind P w).hash x) (.str x tk) hr
    have hl1 := layNew_led t es ((PySem.strKind P w).hash x) (.str x tk)
    generalize layNew t es ((PySem.strKind P w).hash x) (.str x tk) = Z at pm hf1 hr1 hl1 ⊢
    obtain ⟨es1, t1, dum, gave⟩ := Z
    dsimp only at pm hf1 hr1 hl1 ⊢
    rw [Array.toList_push] at pm
    have g1 : ElemsOf (PySem.strKind P w) es1.toList := (g.push hk hs).perm pm
    have pm1 : (es1.toList.map kOf).Perm (L ++ [x]) := by
      have q := pm.map kOf
      rw [List.map_append] at q
      exact q.trans (pm0.append_right _)
    have hsz : es1.size = L.length + 1 := by
      have q := pm1.length_eq
      rw [List.length_map, Array.length_toList, List.length_append, List.length_singleton] at q
      exact q
    have hb1 : es1.size < scanBound := by rw [hsz]; exact room
    have hl2 : w.params.followText "set-order" = true ∨ t1.led = true := hl.imp id fun z => by rw [hl1]; exact z
    -- what is stored, and laid anew where the table is too full
    have tail : ∀ (t2 : SetTable) (gv : Bool → Sem Unit), (∀ (b : Bool) (s₁ : Shared) (Q' : Unit → Shared → Prop), Q' () s₁ → wpAny (model P w) A (gv b) Q' E s₁) → t2.fits es1.size = true → Ris t2.place.toList →
        (w.params.followText "set-order" = true ∨ t2.led = true) → ∀ (R' : Option Bool → Shared → Prop), (∀ h', Heap.SameBut a s.heap h' → QSet P w h' a (L ++ [x]) → R' (some true) { s with heap := h' }) →
        wpAny (model P w) A (do
          storeSet a es1 t2
          if (!dum && t2.tooFull) = true then do
              gv (relayAll t2 es1 (SetTable.grown es1.size)).2.2
              storeSet a (relayAll t2 es1 (SetTable.grown es1.size)).1 (relayAll t2 es1 (SetTable.grown es1.size)).2.1
              pure (some true)
            else pure (some true)) R' E s := by
      intro t2 gv hgv hf2 hr2 hl3 R' hR
      refine wpAny_bind (wpAny_storeSet_of ho hd ?_ (fits_of_scanBound hb1))
      have ho1 := store_at (es' := es1) (t' := t2) ho hd
      have sb1 := Heap.SameBut.update s.heap a (Obj.putSet es1 t2)
      split
      · have q1 := relayAll_perm t2 es1 (SetTable.grown es1.size)
        have q2 := relayAll_fits t2 es1 (SetTable.grown es1.size)
        have q3 := relayAll_ris t2 es1 (SetTable.grown es1.size)
        have q4 := relayAll_led t2 es1 (SetTable.grown es1.size)
        generalize relayAll t2 es1 (SetTable.grown es1.size) = Y at q1 q2 q3 q4 ⊢
        obtain ⟨es2, t3, gave2⟩ := Y
        dsimp only at q1 q2 q3 q4 ⊢
        have z2 : es2.size = es1.size := by rw [← Array.length_toList, q1.length_eq, Array.length_toList]
        have hb2 : es2.size < scanBound := by rw [z2]; exact hb1
        refine wpAny_bind (hgv _ _ _ ?_)
        refine wpAny_bind (wpAny_storeSet_of ho1 rfl ?_ (fits_of_scanBound hb2))
        have ho2 := store_at (es' := es2) (t' := t3) ho1 rfl
        refine wpAny_pure (hR _ (sb1.trans (Heap.SameBut.update _ a _)) ?_)
        exact ⟨_, es2, _, t3, ho2, hex, rfl, g1.perm q1, (q1.map kOf).trans pm1, hb2, q2, q3, hl3.imp id fun z => by rw [q4]; exact z⟩
      · exact wpAny_pure (hR _ sb1 ⟨_, es1, _, t2, ho1, hex, rfl, g1, pm1, hb1, hf2, hr2, hl3⟩)
    have hgw : ∀ (b : Bool) {s₁ : Shared} {Q' : Unit → Shared → Prop}, Q' () s₁ → wpAny (model P w) A (match b with | true => rule "set.scan.the-table-gave-way" | false => pure ()) Q' E s₁ :=
      fun b s₁ Q' q => by
        cases b
        · exact wpAny_pure q
        · exact wpAny_rule q
    refine wpAny_bind (hgw _ ?_)
    split
    · refine wpAny_bind ?_
      rw [hashByValue_scannable 8 hs]
      refine wpAny_pure ?_
      refine tail _ _ ?_ ?_ ?_ ?_ _ ?_
      · intro b s₁ Q' q
        cases b <;> first | exact wpAny_pure q | exact wpAny_rule q
      · first | (split <;> first | exact hf1 | exact SetTable.fits_plain_off hf1) | exact hf1
      · first | (split <;> exact hr1) | exact hr1
      · first | (split <;> exact hl2) | exact hl2
      · intro h' sb r
        dsimp only
        exact wpAny_pure (hQ h' true sb r)
    · refine wpAny_bind (wpAny_pure ?_)
      simp only [↓reduceIte]
      refine tail _ _ ?_ hf1 hr1 hl2 _ ?_
      · intro b s₁ Q' q
        cases b <;> first | exact wpAny_pure q | exact wpAny_rule q
      · intro h' sb r
        dsimp only
        exact wpAny_pure (hQ h' true sb r)

/-! ### set(a list of texts) -/
/-- a text put behind, unless it is there -/
def put1 (L : List Str) (x : Str) : List Str := if x ∈ L then L else L ++ [x]
/-- each once, where it comes first -/
def once (xs : List Str) : List Str := xs.foldl put1 []
theorem put1_len (L : List Str) (x : Str) : (put1 L x).length ≤ L.length + 1 := by
  unfold put1
  split
  · exact Nat.le_succ _
  · simp
theorem once_snoc (l : List Str) (x : Str) : once (l ++ [x]) = put1 (once l) x := by
  unfold once
  rw [List.foldl_append]
  rfl
theorem once_take {xs : List Str} {i : Nat} {x : Str} (h : xs[i]? = some x) : once (xs.take (i + 1)) = put1 (once (xs.take i)) x := by
  rw [List.take_add_one, h, Option.toList_some, once_snoc]
theorem once_take_len (xs : List Str) : ∀ i, (once (xs.take i)).length ≤ i
  | 0 => by simp [once]
  | i + 1 => by
    cases h : xs[i]? with
    | some x =>
      rw [once_take h]
      have := put1_len (once (xs.take i)) x
      have := once_take_len xs i
      omega
    | none =>
      rw [List.take_add_one, h, Option.toList_none, List.append_nil]
      exact Nat.le_succ_of_le (once_take_len xs i)
theorem once_wl (x : Str) : once [x, tR] = wl x := by
  unfold once wl
  show put1 (put1 [] x) tR = _
  have e : put1 [] x = [x] := rfl
  rw [e]
  unfold put1
  by_cases h : x = tR
  · rw [if_pos h, if_pos (by rw [h]; exact List.mem_singleton.mpr rfl)]
  · rw [if_neg h, if_neg (fun z => h (List.mem_singleton.mp z).symm)]
    rfl

theorem set_loop {I : Addr} {fp wr : List Addr} {G : Array GenState → Array GenState → Prop} {n : Nat} {Pv : Nat → Value → Prop} {St : Nat → Shared → Prop} {R : Result → Shared → Prop}
    (W : WalksS P w A.in1 I fp wr G n Pv St) (S : Addr) (hSf : S ∉ fp) (xs : List Str) (hn : n = xs.length) (hb : xs.length + 1 < scanBound) (hval : ∀ i v, Pv i v → ∃ x t, xs[i]? = some x ∧ v = .str x t) :
    ∀ (k i : Nat) (s : Shared), n - i = k → i ≤ n → St i s → QSet P w s.heap S (once (xs.take i)) →
      (∀ s', Moved (S :: wr) G s s' → QSet P w s'.heap S (once xs) → R (.ok (.ret .none)) s') →
      codeAny (model P w) A (.builtin "set.update.loop" ⟨[.ref S, .ref I], []⟩) R s := by
  have hSw : S ∉ wr := fun h => hSf (W.sub _ h)
  have up : ∀ b ∈ wr, b ∈ S :: wr := fun b hb => List.mem_cons_of_mem _ hb
  intro k
  induction k with
  | zero =>
    intro i s hk hi hst hS hR
    have e : i = n := by omega
    subst e
    refine codeAny_builtin F.entry_set_update_loop ?_
    rw [Around.under_plainId F.plain_set_update_loop _]
    show wpAny _ A.in1 (pyNext (.ref I) >>= _) _ _ s
    refine wpAny_bind (W.done s _ _ hst fun s' hm => ?_)
    show wpAny _ A.in1 (ret Value.none) _ _ s'
    rw [List.take_of_length_le (by omega)] at hS
    exact wpAny_pure (hR s' (hm.mono up) (hS.at fun o e => hm.heap S o hSw e))
  | succ k ih =>
    intro i s hk hi hst hS hR
    have hlt : i < n := by omega
    refine codeAny_builtin F.entry_set_update_loop ?_
    rw [Around.under_plainId F.plain_set_update_loop _]
    show wpAny _ A.in1 (pyNext (.ref I) >>= _) _ _ s
    refine wpAny_bind (W.item i s _ _ hlt hst fun v s' hP hst' hm => ?_)
    obtain ⟨x, t, hx, rfl⟩ := hval i v hP
    have hS' : QSet P w s'.heap S (once (xs.take i)) := hS.at fun o e => hm.heap S o hSw e
    show wpAny _ A.in1 (holding [Value.str x t] (setAdd S (.str x t)) >>= _) _ _ s'
    refine wpAny_bind (wpAny_holding ?_)
    unfold setAdd
    refine wpAny_holding ?_
    refine wpAny_bind ((PySem.strKind P w).pyHash (k := x) (str_is x t) ?_)
    have hlen := once_take_len xs i
    refine qset_add (s := { s' with toks := s'.toks + 1 }) hS' (by omega) fun h' b hsb hS2 => ?_
    have hS3 : QSet P w h' S (once (xs.take (i + 1))) := by
      rw [once_take hx]
      exact hS2
    refine wpAny_pure ⟨plainId_quiet F.plain_set_update_loop _, ih (i + 1) _ (by omega) hlt (W.frame _ s' _ _ hst' (Nat.le_succ _) fun c hc o e => ?_) hS3 fun s'' hm2 hS4 => ?_⟩
    · rw [hsb.2 c (fun h : c = S => hSf (by rw [← h]; exact hc))]
      exact e
    · refine hR s'' (Moved.trans W.gtrans ((hm.mono up).then_heap (Nat.le_succ _) fun c o hc e => ?_) hm2) hS4
      rw [hsb.2 c (fun h : c = S => hc (by rw [h]; exact List.mem_cons_self))]
      exact e

/-- a set that is just made -/
def freshSet (w : World) : Obj := { cls := .type "set", dict := none, data := .set #[] 0 (.fresh 0 0 (!w.params.followText "set-order")) }
theorem qset_fresh {h : Heap} (ho : h.get? a = some (freshSet w)) : QSet P w h a [] :=
  ⟨_, #[], 0, _, ho, ⟨rfl, rfl, rfl⟩, rfl, (fun e he => by simp at he), List.Perm.nil, (by decide), (by rfl), List.Pairwise.nil, by
    show _ ∨ (!w.params.followText "set-order") = true
    cases w.params.followText "set-order"
    · exact .inr rfl
    · exact .inl rfl⟩

theorem strs_place : ∀ {us : List Value} {xs : List Str}, StrsAre us xs → ∀ (i : Nat) (v : Value), us[i]? = some v → ∃ t, v = .str (xs.getD i Str.empty) t
  | _, _, .nil, i, v, h => by simp at h
  | _, _, .cons n t hr, 0, v, h => ⟨t, (Option.some.inj h).symm⟩
  | _, _, .cons n t hr, i + 1, v, h => by
    obtain ⟨t', e⟩ := strs_place hr i v (by simpa using h)
    exact ⟨t', by rw [e]; rfl⟩
set_option maxHeartbeats 3200000 in
theorem call_set_strs {l : Addr} {items : Array Value} (xs : List Str) {Q : Value → Shared → Prop} (hh : A.handled = none) (hl : s.heap.IsList l items) (hit : StrsAre items.toList xs) (hb : xs.length + 1 < scanBound)
    (h : ∀ (h' : Heap) (tk : Nat), QSet P w h' s.heap.objs.size (once xs) → (∀ b o, s.heap.get? b = some o → h'.get? b = some o) → Q (.ref s.heap.objs.size) { s with heap := h', toks := tk }) :
    wpAny (model P w) A (call (.type "set") [.ref l]) Q E s := by
  have hisz : items.size = xs.length := by
    have q := StrsAre.len_eq hit
    rw [Array.length_toList] at q
    exact q
  obtain ⟨c, tl, hmro⟩ := F.called_set.mro
  have hmade := F.called_set.made
  have hsub := F.called_set.sub
  refine wpAny_call (codeAny_of_tree ?_)
  show wpAny _ _ (callAny (.type "set") _) _ _ _
  refine wpAny_pure ⟨Code.quiet_builtin _ (by decide +kernel), codeAny_builtin F.entry_type_call ?_⟩
  rw [Around.under_plain (weight_type_call_type "set" [.ref l] []) rfl]
  have h1 := F.called_set.notType
  have h2 := F.called_set.canCreate
  have hct := F.typeCall_set_1 (.ref l)
  repeat (any_goals (first | assumption | wp_step))
  refine codeAny_mono (code_set_led1 (.ref l) (E := E) (Q₁ := fun obj s₁ => obj = .ref s.heap.objs.size ∧ s₁ = { s with heap := s.heap.push (freshSet w) }) ⟨rfl, rfl⟩) fun r s₁ hr => ?_
  cases r with
  | error e => exact hr
  | ok fl =>
    cases fl with
    | ret obj =>
      obtain ⟨rfl, rfl⟩ := hr
      have hS : (s.heap.push (freshSet w)).get? s.heap.objs.size = some (freshSet w) := Heap.get?_push_size _ rfl
      have hT : Shared.TypeIs { s with heap := s.heap.push (freshSet w) } (.ref s.heap.objs.size) "set" := ⟨_, hS, rfl⟩
      have hli := F.called_set.init.lookup
      have hbi := F.called_set.init.bind (.ref s.heap.objs.size)
      repeat (any_goals (first | assumption | wp_step))
      refine codeAny_mono (codeAny_call_builtin (R := wants (fun r s₂ => r = .none ∧ ∃ h' tk, s₂ = { s with heap := h', toks := tk } ∧ QSet P w h' s.heap.objs.size (once xs) ∧
          (∀ b o, s.heap.get? b = some o → h'.get? b = some o)) E) F.called_set.init.plain F.entry_set_init (check_set_init_1 hT ?_)) fun r₂ s₂ hr₂ => ?_
      · obtain ⟨ol, hol, hcl, nl, hdl⟩ := hl
        obtain ⟨ocls, odict, odata, oslots⟩ := ol
        simp only at hcl hdl
        subst hcl; subst hdl
        have hol' : (s.heap.push (freshSet w)).get? l = some { cls := .type "list", dict := odict, data := .seq items nl, slots := oslots } := Heap.get?_push_of_some _ hol
        have hsls := F.sub_list_set
        have hslf := F.sub_list_frozenset
        have hne : (Value.type "list" == Value.type "dict") = false := by decide
        have hl1 : (s.heap.push (freshSet w)).IsList l items := ⟨_, hol', rfl, nl, rfl⟩
        unfold Builtin.«set.__init__» noKeywords Builtin.Frozenset.updateFrom
        generalize hPI : pyIter = PI
        wp_walk
        subst hPI
        refine wpAny_pyIter_list hl1 ?_
        refine wpAny_bind (wpAny_runValue ?_)
        have hlS : l < s.heap.objs.size := Heap.lt_size hol
        have hh3 : A.in1.in1.in1.handled = none := by simp [hh]
        have hneI : l ≠ (s.heap.push (freshSet w)).objs.size := by
          rw [Heap.size_push]; exact Nat.ne_of_lt (Nat.lt_succ_of_lt hlS)
        have hSf : s.heap.objs.size ∉ [(s.heap.push (freshSet w)).objs.size, l] := by
          rw [Heap.size_push]; simp only [List.mem_cons, List.mem_singleton, List.not_mem_nil, or_false, not_or]
          exact ⟨Nat.ne_of_lt (Nat.lt_succ_self _), Nat.ne_of_gt hlS⟩
        have hval : ∀ (i : Nat) (v : Value), items[i]? = some v → ∃ x t, xs[i]? = some x ∧ v = .str x t := fun i v hv => by
          have hi : i < xs.length := by rw [← hisz]; exact (Array.getElem?_eq_some_iff.mp hv).1
          obtain ⟨t, e⟩ := strs_place hit i v (by rw [Array.getElem?_toList]; exact hv)
          refine ⟨xs[i], t, List.getElem?_eq_getElem hi, ?_⟩
          rw [e, List.getD_eq_getElem?_getD, List.getElem?_eq_getElem hi] <;> rfl
        refine set_loop ((Walks.list hh3 _ l hneI items).toS) s.heap.objs.size
          hSf xs hisz hb hval (items.size - 0) 0 _ (by omega) (Nat.zero_le _)
          ⟨⟨_, Heap.get?_push_size _ rfl, rfl, rfl⟩, (hl1.push _)⟩ ?hS0 ?hR
        case hS0 => exact qset_fresh (Heap.get?_push_of_some _ hS)
        case hR =>
          intro s' hm hS'
          obtain ⟨h', g2, d', tk', os'⟩ := s'
          have eg : g2 = s.gens := hm.gens
          have ed : d' = s.drawn := hm.drawn
          have eo : os' = s.os := hm.os
          subst eg; subst ed; subst eo
          show wpAny _ _ _ _ _ _
          refine wpAny_pure ?_
          show wpAny _ _ (ret Value.none) _ _ _
          refine wpAny_pure ⟨rfl, h', tk', rfl, hS', fun b o e => ?_⟩
          have hb0 : b < s.heap.objs.size := Heap.lt_size e
          have hb1 : b ≠ s.heap.objs.size := Nat.ne_of_lt hb0
          have hb2 : b ≠ (s.heap.push (freshSet w)).objs.size := by
            rw [Heap.size_push]; exact Nat.ne_of_lt (Nat.lt_succ_of_lt hb0)
          exact hm.heap b o (by simp only [List.mem_cons, List.mem_singleton, List.not_mem_nil, or_false, not_or]; exact ⟨hb1, hb2⟩) (Heap.get?_push_of_some _ (Heap.get?_push_of_some _ e))
      · cases r₂ with
        | error e => exact hr₂
        | ok fl₂ =>
          cases fl₂ with
          | ret r =>
            obtain ⟨rfl, h', tk, rfl, hS', hk'⟩ := hr₂
            repeat (any_goals (first | assumption | wp_step))
            exact h _ _ hS' hk'
          | _ => exact hr₂.elim
    | _ => exact hr.elim
end
end K24
/-! K24B: rules of our own: {x} of None; remove of a text; count of truths; text * number; set(texts) and sorted of it. -/
namespace K24
open PySem PySem.Spec PyProof.Rows L2
section
variable {X : Cx}

/-! ### the refusal's words -/
/-- what a name may be in the refusal's words -/
def NameOk (v : V) : Prop := v = .non ∨ (∃ i : Int, v = .int i ∧ 0 ≤ i ∧ i ≤ 100) ∨ ∃ y : Str, v = .str y ∧ y.length ≤ 100
def tField (te : TE) : TE := fun σ H Q => te σ H fun v H1 => NameOk v ∧ ∀ y : Str, y.length ≤ 200 → Q (.str y) H1
theorem log2_small {i : Int} (h0 : 0 ≤ i) (h1 : i ≤ 100) : i.natAbs.log2 < 1920 := by
  by_cases e : i.natAbs = 0
  · rw [e]; decide
  · have h : i.natAbs < 2 ^ 1920 := Nat.lt_of_le_of_lt (show i.natAbs ≤ 100 by omega) (by decide +kernel)
    exact (Nat.log2_lt e).mpr h
theorem digits_small' : ∀ n : _root_.Fin 101, (toString ((n.val : Nat) : Int) : Str).length ≤ 200 := by decide +kernel
theorem digits_small {i : Int} (h0 : 0 ≤ i) (h1 : i ≤ 100) : (toString i : Str).length ≤ 200 := by
  have q := digits_small' ⟨i.toNat, by omega⟩
  have e : ((i.toNat : Nat) : Int) = i := Int.toNat_of_nonneg h0
  rwa [show (((⟨i.toNat, by omega⟩ : _root_.Fin 101).val : Nat) : Int) = i from e] at q
theorem line_big {n : Nat} (h : n ≤ 1000) : n ≤ sizeLine := by
  rw [sizeLine_eq]
  omega
theorem pe_field {e : Expr} {te : TE} {pos : Pos} (he : PE X e te) : PE X (.FormattedValue e (-1) none pos) (tField te) := by
  refine ⟨fun pins s σ H Q I h => ?_⟩
  refine wpAny_FormattedValue_plain (thn (he.run pins s σ H _ I h) fun v s1 hv => ?_)
  obtain ⟨x, H1, I1, r1, ok, q⟩ := hv
  rcases ok with rfl | ⟨i, rfl, h0, h1⟩ | ⟨y, rfl, hy⟩
  · cases r1
    exact wpAny_formatField_none ⟨.str "None", H1, I1.tok _, ⟨_, rfl⟩, q _ (by decide +kernel)⟩
  · obtain ⟨t, rfl⟩ := r1
    exact wpAny_formatField_int (log2_small h0 h1) ⟨.str (toString i), H1, I1.tok _, ⟨_, rfl⟩, q _ (digits_small h0 h1)⟩
  · obtain ⟨t, rfl⟩ := r1
    have hq := q y (Nat.le_trans hy (by decide))
    exact wpAny_formatField_str ⟨.str y, H1, I1, ⟨t, rfl⟩, hq⟩ ⟨.str y, H1, I1.tok _, ⟨_, rfl⟩, hq⟩ (line_big (Nat.le_trans hy (by decide)))
/-- f"{e} .." -/
def tWords (te : TE) : TE := fun σ H Q => te σ H fun v H1 => NameOk v ∧ ∀ z : Str, Q (.str z) H1
theorem str_len_append (a b : Str) : (a ++ b).length = a.length + b.length := by
  show (a.cps ++ b.cps).size = a.cps.size + b.cps.size
  exact Array.size_append
/-- a reading, weakened at its end -/
def tM (te : TE) : TE := fun σ H Q => ∃ R : VK, te σ H R ∧ ∀ v H', R v H' → Q v H'
theorem pe_m {e : Expr} {te : TE} (he : PE X e te) : PE X e (tM te) := by
  refine ⟨fun pins s σ H Q I h => ?_⟩
  obtain ⟨R, h1, h2⟩ := h
  exact thn (he.run pins s σ H R I h1) fun u s1 ⟨v, H1, I1, r1, q1⟩ => ⟨v, H1, I1, r1, h2 v H1 q1⟩
theorem pe_words {e : Expr} {te : TE} {m : Str} {j : Nat} {p1 p2 pos : Pos} (hm : m.length ≤ 100) (he : PE X e te) : PE X (.JoinedStr [.FormattedValue e (-1) none p1, .Constant (.str m) j p2] pos) (tWords te) := by
  have hj := pe_joined (X := X) (pos := pos) (PJ.cons (pe_field (pos := p1) (pe_m he)) (PJ.cons (pe_str (X := X) (x := m) (j := j) (pos := p2)) PJ.nil))
  refine ⟨fun pins s σ H Q I h => hj.run pins s σ H Q I ?_⟩
  refine ⟨_, h, fun v H' q => ⟨q.1, fun y hy => ?_⟩⟩
  have e0 : (Str.empty ++ y).length = y.length := by
    rw [str_len_append]
    show 0 + y.length = y.length
    omega
  refine ⟨y, rfl, line_big (by omega), ?_⟩
  refine ⟨m, rfl, ?_, q.2 _⟩
  rw [str_len_append, e0]
  exact line_big (by omega)

/-! ### lists of texts, of truths -/
def isS (x : Str) (v : Value) : Bool := match v with
  | .str y _ => decide (y = x)
  | _ => false
theorem isS_gives {x : Str} {t : Tok} : ∀ {us : List Value} {ys : List Str}, StrsAre us ys → ∀ y ∈ us, MeetsSeq.EqGives y (.str x t) (isS x y)
  | _, _, .nil => fun y hy => by cases hy
  | _, _, .cons n t' h => fun y hy => by
    rcases List.mem_cons.mp hy with e | e
    · rw [e]
      exact fun _ _ _ _ _ _ q => wpAny_eqBool_str q
    · exact isS_gives h y e
theorem isS_at {x : Str} : ∀ {us : List Value} {ys : List Str}, StrsAre us ys → ∀ (i : Nat) (h : i < us.length), isS x us[i] = true ↔ ys[i]? = some x
  | _, _, .nil, i, h => absurd h (by simp)
  | _, _, .cons n t hr, 0, _ => by
    show decide (n = x) = true ↔ some n = some x
    rw [decide_eq_true_iff, Option.some_inj]
  | _, _, .cons n t hr, i + 1, h => isS_at hr i (Nat.lt_of_succ_lt_succ h)
/-- where a text stands first -/
theorem first_str : ∀ {l : List Str} {x : Str}, x ∈ l → ∃ j, j < l.length ∧ l[j]? = some x ∧ (∀ i, i < j → l[i]? ≠ some x) ∧ l.eraseIdx j = l.erase x
  | [], x, h => absurd h (by simp)
  | a :: r, x, h => by
    by_cases e : a = x
    · refine ⟨0, Nat.succ_pos _, by rw [e]; rfl, fun i hi => absurd hi (Nat.not_lt_zero _), ?_⟩
      rw [e, List.erase_cons_head]
      rfl
    · have hr : x ∈ r := by
        rcases List.mem_cons.mp h with z | z
        · exact absurd z.symm e
        · exact z
      obtain ⟨j, h1, h2, h3, h4⟩ := first_str hr
      refine ⟨j + 1, Nat.succ_lt_succ h1, h2, fun i hi => ?_, ?_⟩
      · cases i with
        | zero => exact fun z => e (Option.some.inj z)
        | succ i => exact h3 i (Nat.lt_of_succ_lt_succ hi)
      · rw [List.erase_cons_tail (by rw [beq_iff_eq]; exact e), ← h4]
        rfl
theorem map_erase_str : ∀ (l : List Str) (j : Nat), (l.map V.str).eraseIdx j = (l.eraseIdx j).map V.str
  | [], j => by simp
  | a :: r, 0 => by simp
  | a :: r, j + 1 => by
    have ih := map_erase_str r j
    simp [ih]
/-- xs.remove(x), x there -/
def rRemS : V → List V → Hp → VK → Prop := fun v xs H Q => ∃ (l : Addr) (ys : List Str) (x : Str), v = .ref l ∧ xs = [.str x] ∧ H l = some (.lst (ys.map V.str)) ∧ x ∈ ys ∧ Q .non (upd H l (.lst ((ys.erase x).map V.str)))
theorem mt_removeS : MtR X "list.remove" rRemS := by
  intro pins s σ H v xs w us Q I rx rxs h
  obtain ⟨l, ys, x, rfl, rfl, hH, hx, q⟩ := h
  cases rx
  obtain ⟨u, rfl, ru⟩ := rxs.one
  obtain ⟨t, rfl⟩ := ru
  obtain ⟨z, its, n, r, hl, e⟩ := I.lstM hH
  have hS := r.strs
  rw [List.length_map] at hl z
  obtain ⟨j, j1, j2, j3, j4⟩ := first_str hx
  have hj : j < its.length := by omega
  refine call_meets PySem.F.slot_list_remove ⟨_, e, rfl⟩ PySem.F.entry_list_remove (PySem.F.args_list_remove_2 _ _)
    (MeetsSeq.list_remove l its.toArray n (.str x t) (isS x) (fun y hy => isS_gives hS y (by simpa using hy)) j (by rw [List.size_toArray]; exact hj) ?hit (fun i hi hlt => ?hno) (by rw [List.size_toArray]; omega)) ⟨e, ?_⟩
  case hit =>
    show isS x its[j] = true
    exact (isS_at hS j hj).mpr j2
  case hno =>
    have hi3 : i < its.length := by rw [List.size_toArray] at hi; exact hi
    show isS x its[i] = false
    rw [Bool.eq_false_iff]
    exact fun k => j3 i hlt ((isS_at hS i hi3).mp k)
  have r2 := r.eraseIdx j
  rw [map_erase_str, j4] at r2
  refine ⟨.non, _, I.lset (its' := its.eraseIdx j) (t' := s.toks) hH e ?_ r2 ?_, rfl, q⟩
  · show its.toArray.eraseIdxIfInBounds j = (its.eraseIdx j).toArray
    rw [List.eraseIdxIfInBounds_toArray]
  · rw [List.length_map]
    have := List.length_erase_le (a := x) (l := ys)
    omega
def isB (b : Bool) (v : Value) : Bool := match v with
  | .bool c => c == b
  | _ => false
theorem isB_at {A : Around} {s : Shared} {b : Bool} : ∀ {us : List Value} {bs : List Bool}, Vals (bs.map V.bl) us → ∀ y ∈ us, SeqAt.EqAt A s y (.bool b) (isB b y)
  | _, [], r => fun y hy => by
    cases r
    cases hy
  | _, c :: bs, r => fun y hy => by
    cases r with
    | cons r1 r2 =>
      cases r1
      rcases List.mem_cons.mp hy with e | e
      · rw [e]
        exact SeqAt.EqAt.bool_bool c b
      · exact isB_at r2 y e
theorem isB_count {b : Bool} : ∀ {us : List Value} {bs : List Bool}, Vals (bs.map V.bl) us → us.countP (isB b) = bs.count b
  | _, [], r => by
    cases r
    rfl
  | _, c :: bs, r => by
    cases r with
    | cons r1 r2 =>
      cases r1
      have ih := isB_count (b := b) r2
      rw [List.countP_cons, List.count_cons, ih]
      rfl
/-- xs.count(b) of a list of truths -/
def rCntB (K : PySem.W.Frag) : V → List V → Hp → VK → Prop := fun v xs H Q => ∃ (p : Addr) (bs : List Bool) (b : Bool), v = .ref p ∧ xs = [.bl b] ∧ SqL K H p (bs.map V.bl) ∧ Q (.int (bs.count b : Nat)) H
theorem mt_countB : MtR X "list.count" (rCntB X.K) := by
  intro pins s σ H v xs w us Q I rx rxs h
  obtain ⟨p, bs, b, rfl, rfl, hs, q⟩ := h
  cases rx
  obtain ⟨u, rfl, ru⟩ := rxs.one
  cases ru
  obtain ⟨its, rv, ⟨⟨cls, dd, data, sl⟩, n, ho, hc, hdn, hd⟩, hlen⟩ := I.list hs
  simp only at hc hd
  subst hc hd
  refine call_meets PySem.F.slot_list_count ⟨_, ho, rfl⟩ PySem.F.entry_list_count (PySem.F.args_list_count_2 _ _)
    (SeqAt.list_countAt p its.toArray n dd sl (.bool b) (isB b)) ⟨ho, fun y hy => isB_at rv y (by simpa using hy), ?_⟩
  have ec : its.toArray.toList.countP (isB b) = bs.count b := isB_count rv
  refine ⟨.int (bs.count b : Nat), H, I.tok _, ⟨s.toks, ?_⟩, q⟩
  show Value.int ((its.toArray.toList.countP (isB b) : Nat) : Int) s.toks = Value.int ((bs.count b : Nat) : Int) s.toks
  rw [ec]

/-! ### one sign, several times -/
theorem fold_rep (a : Nat) : ∀ (n : Nat) (acc : Array Nat), (List.replicate n (#[a] : Array Nat)).foldl (· ++ ·) acc = acc ++ (List.replicate n a).toArray
  | 0, acc => by simp
  | n + 1, acc => by
    rw [List.replicate_succ, List.foldl_cons, fold_rep a n, List.replicate_succ]
    apply Array.toList_inj.mp
    simp
theorem rep_nm (a n : Nat) : (⟨(List.replicate n (#[a] : Array Nat)).foldl (· ++ ·) #[]⟩ : Str) = nm (fun _ => a) n := by
  rw [fold_rep]
  unfold nm
  congr 1
  rw [List.map_const', List.length_range]
  simp
theorem op_mul_sign : OpR X (binaryOp .Mult) (fun x y H Q => ∃ (a : Nat) (k : Int), x = .str ⟨#[a]⟩ ∧ y = .int k ∧ 1 ≤ k ∧ k ≤ 20 ∧ Q (.str (nm (fun _ => a) k.toNat)) H) := by
  intro pins s σ H x y v u Q I rx ry h
  obtain ⟨a, k, rfl, rfl, h1, h20, q⟩ := h
  obtain ⟨t, rfl⟩ := rx
  obtain ⟨t', rfl⟩ := ry
  have hl1 : (⟨#[a]⟩ : Str).length = 1 := rfl
  have hd : ∀ n : Int, 1 ≤ n → n ≤ 20 → ¬ ((((⟨#[a]⟩ : Str).length : Nat) : Int) > (2 ^ 63 - 1) / n) := fun n g1 g2 => by
    rw [hl1]
    have e : (1 : Int) ≤ (2 ^ 63 - 1) / n := (Int.le_ediv_iff_mul_le (by omega)).mpr (by omega)
    show ¬ ((1 : Int) > (2 ^ 63 - 1) / n)
    omega
  refine PySem.P.mul_str ?_ (fun _ _ => hd k h1 h20) (fun _ _ => ?_) ?_
  · rw [decide_eq_false (by omega), decide_eq_false (by omega)]
    rfl
  · rw [hl1]
    unfold Builtin.Str.tooLong
    rw [decide_eq_false_iff_not, sizeLine_eq]
    omega
  · rw [if_neg (by omega)]
    split
    · rename_i hk
      have e : k = 1 := by
        rw [hl1] at hk
        simpa using hk
      subst e
      exact ⟨.str ⟨#[a]⟩, H, I, ⟨_, rfl⟩, q⟩
    · refine ⟨?_, .str (nm (fun _ => a) k.toNat), H, I.tok _, ⟨_, by rw [rep_nm]⟩, q⟩
      rw [rep_nm, nm_len]
      exact line_big (by omega)

/-! ### set(texts), sorted of it -/
def QS (P : Program) (w : World) (a : Addr) (L : List Str) : HO := .ext fun h => QSet P w h a L
theorem qs_new {w : World} {P : Program} {H : Hp} {h : Heap} {a : Addr} {L : List Str} (R : QSet P w h a L) : ObjOk P w H h a (QS P w a L) := by
  have ⟨o, _, _, _, ho, _⟩ := R
  exact ⟨R, ⟨o, ho⟩, fun h1 h2 p k => QSet.at p k⟩
def rSetS (K : PySem.W.Frag) (P : Program) (w : World) : List V → Hp → VK → Prop := fun vs H Q => ∃ (l : Addr) (xs : List Str), vs = [.ref l] ∧ SqL K H l (xs.map V.str) ∧ xs.length < 64 ∧ ∀ p, H p = none → Q (.ref p) (upd H p (QS P w p (once xs)))
theorem cr_setS (hc : X.calm = true) : CallR X (.type "set") (rSetS X.K X.prog X.w) := by
  intro pins s σ H vs us Q I r h
  obtain ⟨l, xs, rfl, hs, h64, q⟩ := h
  rw [Vals.ref1 r]
  obtain ⟨its, rv, pl, _⟩ := I.list hs
  refine call_set_strs xs (I.ok.hd hc) pl.isList (by simpa using rv.strs) (by unfold scanBound; omega) fun h' tk hS k => ?_
  exact ⟨.ref s.heap.objs.size, upd H s.heap.objs.size (QS X.prog X.w s.heap.objs.size (once xs)), I.laid (t' := tk) k (Nat.le_refl _) (qs_new hS), rfl, q _ (I.hok.fresh (Nat.le_refl _))⟩
theorem strs_kOf {P : Program} {w : World} {es : List (Int × Value)} (g : ElemsOf (PySem.strKind P w) es) : ∀ (vs : List Value), (∀ v ∈ vs, ∃ e ∈ es, e.2 = v) → StrsAre vs (vs.map fun v => kOf (0, v))
  | [], _ => .nil
  | v :: vs, h => by
    obtain ⟨e, he, rfl⟩ := h v List.mem_cons_self
    have ih := strs_kOf g vs fun u hu => h u (List.mem_cons_of_mem _ hu)
    obtain ⟨tk, q⟩ := elem_str g he
    have q2 : kOf (0, e.2) = kOf e := rfl
    rw [List.map_cons, q2]
    rw [show StrsAre (e.2 :: vs) (kOf e :: vs.map fun v => kOf (0, v)) = StrsAre (.str (kOf e) tk :: vs) (kOf e :: vs.map fun v => kOf (0, v)) from by rw [← q]]
    exact .cons _ _ ih
def rSortQ (P : Program) (w : World) : List V → Hp → VK → Prop := fun vs H Q => ∃ (a : Addr) (L : List Str), vs = [.ref a] ∧ H a = some (QS P w a L) ∧ L.length < 64 ∧
  ∀ (ys : List Str) (p : Addr), ys.Perm L → sortedS ys = true → H p = none → Q (.ref p) (upd H p (.lst (ys.map V.str)))
theorem cr_sortQ (hc : X.calm = true) : CallR X (.builtin "sorted") (rSortQ X.prog X.w) := by
  intro pins s σ H vs us Q I r h
  obtain ⟨a, L, rfl, ha, h64, q⟩ := h
  rw [Vals.ref1 r]
  obtain ⟨o, es, ep, t, ho, hex, hd, g, pm0, hb, hf, hr, hl⟩ := (show QSet X.prog X.w s.heap a L from (I.hok a _ ha).1)
  refine Calls.call_function_entry PyProof.Rows.kind_sorted PyProof.Rows.plain_sorted PyProof.Rows.entry_sorted (PyProof.Rows.args_sorted1 _) ?_
  unfold Builtin.«sorted»
  refine wpAny_bind (m := checkCount "sorted" 1 1 _) (wpAny_pure ?_)
  refine wpAny_bind (collect_set (A := X.A.in1) (I.ok.hd hc) ⟨o, ho, hex.1, hd⟩ hf hb hr hl fun s1 vs k1 hz g1 o1 pm => ?_)
  have hS : StrsAre vs (vs.map fun v => kOf (0, v)) := strs_kOf g vs fun v hv => by
    obtain ⟨e, he, q⟩ := List.mem_map.mp (pm.mem_iff.mp hv)
    exact ⟨e, he, q⟩
  have pL : (vs.map fun v => kOf (0, v)).Perm L := by
    have q := pm.map fun v => kOf (0, v)
    rw [List.map_map] at q
    exact q.trans pm0
  have hal : vs.length = L.length := by
    have q := pL.length_eq
    rw [List.length_map] at q
    exact q
  refine wpAny_bind (wpAny_newList ?_ (by rw [hal, sizeLine_eq]; omega))
  have hoL : (s1.heap.push (seqObj "list" vs.toArray 0)).get? s1.heap.objs.size = some (seqObj "list" vs.toArray 0) := Heap.get?_push_size _ rfl
  refine wpAny_bind (wpAny_holding (wpAny_call_entry PyProof.Rows.slot_list_sort ⟨_, hoL, rfl⟩ PyProof.Rows.entry_list_sort
    (list_sort_treeK strKind_oneLt (s := { s1 with heap := s1.heap.push (seqObj "list" vs.toArray 0) }) hoL hS.keysOf (fun v₁ v₂ rest e => keyKind_strs (by rw [← e]; exact hS)) (by rw [hal]; exact h64) fun st' hp hs => ⟨_, rfl, ?_⟩)
    (PyProof.Rows.args_list_sort _)))
  obtain ⟨ys, w1, w2, w3⟩ := sorted_out_str hS hp hs
  obtain ⟨e', he'⟩ := PyProof.Rows.sortedHeap_at (vs := vs) (out := (arrOf st').map (·.2)) hoL
  have hlen : (ys.map V.str).length ≤ sizeLine := by
    rw [List.length_map, (w2.trans pL).length_eq]
    exact Nat.le_trans (Nat.le_of_lt h64) (by decide)
  have hn : H s1.heap.objs.size = none := I.hok.fresh hz
  have kk : ∀ b u, s.heap.get? b = some u → (sortedHeap (s1.heap.push (seqObj "list" vs.toArray 0)) s1.heap.objs.size vs ((arrOf st').map (·.2))).get? b = some u := fun b u e => by
    have q1 := k1 b u e
    have hlt := Heap.lt_size q1
    rw [PyProof.Rows.sortedHeap_old (Nat.ne_of_lt hlt) (by rw [size_push']; exact Nat.lt_succ_of_lt hlt)]
    exact Heap.get?_push_of_some _ q1
  have J : Inv X pins σ (upd H s1.heap.objs.size (.lst (ys.map V.str))) { s with heap := sortedHeap (s1.heap.push (seqObj "list" vs.toArray 0)) s1.heap.objs.size vs ((arrOf st').map (·.2)), gens := s1.gens, drawn := s1.drawn, toks := s1.toks } :=
    I.call (ch := []) (Un.laid kk hz hn) (I.hok.laid kk hz ⟨hlen, ((arrOf st').map (·.2)).toList, e', vals_of_strs w1, by rw [Array.toArray_toList]; exact he'⟩) (by rw [g1]; exact I.bare) (fun _ z => nomatch z)
  refine wpAny_pure ⟨_, rfl, .ref s1.heap.objs.size, _, ?_, rfl, q ys _ (w2.trans pL) w3 hn⟩
  have es : ({ s1 with heap := sortedHeap (s1.heap.push (seqObj "list" vs.toArray 0)) s1.heap.objs.size vs ((arrOf st').map (·.2)) } : Shared) = { s with heap := sortedHeap (s1.heap.push (seqObj "list" vs.toArray 0)) s1.heap.objs.size vs ((arrOf st').map (·.2)), gens := s1.gens, drawn := s1.drawn, toks := s1.toks } := by
    cases s1
    cases s
    cases o1
    rfl
  first
    | exact es ▸ J
    | (rw [es]; exact J)
end
end K24
/-! K24D: how the objects lie: tables by their keys, frames, an Index, Threads. -/
namespace K24
open PySem PySem.Spec PyProof.Rows L2

/-! ### tables -/
def tb (f : Str → V) (l : List Str) : List (Key × V) := l.map fun x => (Sum.inr x, f x)
theorem tb_keys (f : Str → V) (l : List Str) : (tb f l).map (·.1) = l.map Sum.inr := by
  unfold tb
  rw [List.map_map]
  rfl
theorem tb_len (f : Str → V) (l : List Str) : (tb f l).length = l.length := by
  unfold tb
  rw [List.length_map]
theorem tb_congr {f g : Str → V} {l : List Str} (h : ∀ x ∈ l, f x = g x) : tb f l = tb g l := by
  unfold tb
  exact List.map_congr_left fun x hx => by rw [h x hx]
theorem tb_snoc (f : Str → V) (l : List Str) (x : Str) : tb f (l ++ [x]) = tb f l ++ [(Sum.inr x, f x)] := by
  unfold tb
  rw [List.map_append]
  rfl
theorem valV_tb (f : Str → V) (x : Str) : ∀ l : List Str, valV (tb f l) (Sum.inr x : Key) = if x ∈ l then some (f x) else none
  | [] => by simp [tb, valV_nil]
  | y :: l => by
    have ih := valV_tb f x l
    show valV ((Sum.inr y, f y) :: tb f l) (Sum.inr x : Key) = _
    by_cases e : y = x
    · subst e
      rw [valV_pos rfl, if_pos List.mem_cons_self]
    · rw [valV_neg (fun z => e (Sum.inr.inj z)), ih]
      by_cases h : x ∈ l
      · rw [if_pos h, if_pos (List.mem_cons_of_mem _ h)]
      · rw [if_neg h, if_neg fun z => (List.mem_cons.mp z).elim (fun q => e q.symm) h]
theorem valV_in {f : Str → V} {x : Str} {l : List Str} (h : x ∈ l) : valV (tb f l) (Sum.inr x : Key) = some (f x) := by rw [valV_tb, if_pos h]
theorem valV_out {f : Str → V} {x : Str} {l : List Str} (h : x ∉ l) : valV (tb f l) (Sum.inr x : Key) = none := by rw [valV_tb, if_neg h]
theorem valV_num (f : Str → V) (i : Int) : ∀ l : List Str, valV (tb f l) (Sum.inl i : Key) = none
  | [] => rfl
  | y :: l => by
    show valV ((Sum.inr y, f y) :: tb f l) (Sum.inl i : Key) = _
    rw [valV_neg (p := ((Sum.inr y : Key), f y)) (k := (Sum.inl i : Key)) (by intro z; cases z), valV_num f i l]
theorem dropK_tb (f : Str → V) (x : Str) : ∀ l : List Str, dropK (tb f l) (Sum.inr x : Key) = tb f (but x l)
  | [] => rfl
  | y :: l => by
    have ih := dropK_tb f x l
    show dropK ((Sum.inr y, f y) :: tb f l) (Sum.inr x : Key) = _
    by_cases e : y = x
    · subst e
      rw [dropK_pos rfl, ih, but_cons_self]
    · rw [dropK_neg (fun z => e (Sum.inr.inj z)), ih, but_cons_ne _ e]
      rfl
theorem putK_tb {f : Str → V} {x : Str} {l : List Str} (v : V) (h : x ∉ l) : putK (tb f l) (Sum.inr x : Key) v = tb (fun y => if y = x then v else f y) (l ++ [x]) := by
  rw [putK_new v (valV_out h), tb_snoc, if_pos rfl, tb_congr (f := f) (g := fun y => if y = x then v else f y) fun y hy => (if_neg fun e : y = x => h (e ▸ hy)).symm]
theorem putK_tb_same {v : V} {x : Str} {l : List Str} (h : x ∉ l) : putK (tb (fun _ => v) l) (Sum.inr x : Key) v = tb (fun _ => v) (l ++ [x]) := by
  rw [putK_tb v h]
  exact tb_congr fun y _ => by split <;> rfl
/-- a table whose keys are numbers -/
def tbN (N : Str → Int) (f : Str → V) (l : List Str) : List (Key × V) := l.map fun x => (Sum.inl (N x), f x)
theorem tbN_len (N : Str → Int) (f : Str → V) (l : List Str) : (tbN N f l).length = l.length := by
  unfold tbN
  rw [List.length_map]
theorem tbN_congr {N M : Str → Int} {f g : Str → V} {l : List Str} (h : ∀ x ∈ l, f x = g x ∧ N x = M x) : tbN N f l = tbN M g l := by
  unfold tbN
  exact List.map_congr_left fun x hx => by rw [(h x hx).1, (h x hx).2]
theorem tbN_snoc (N : Str → Int) (f : Str → V) (l : List Str) (x : Str) : tbN N f (l ++ [x]) = tbN N f l ++ [(Sum.inl (N x), f x)] := by
  unfold tbN
  rw [List.map_append]
  rfl
theorem valN_in {N : Str → Int} {f : Str → V} {x : Str} : ∀ {l : List Str}, (∀ a ∈ l, ∀ b ∈ l, N a = N b → a = b) → x ∈ l → valV (tbN N f l) (Sum.inl (N x) : Key) = some (f x)
  | [], _, h => by cases h
  | y :: l, hi, h => by
    show valV ((Sum.inl (N y), f y) :: tbN N f l) (Sum.inl (N x) : Key) = _
    by_cases e : y = x
    · subst e
      rw [valV_pos rfl]
    · have hx : x ∈ l := (List.mem_cons.mp h).resolve_left fun q => e q.symm
      rw [valV_neg (fun z => e (hi y List.mem_cons_self x h (Sum.inl.inj z)))]
      exact valN_in (fun a ha b hb => hi a (List.mem_cons_of_mem _ ha) b (List.mem_cons_of_mem _ hb)) hx
theorem valN_out {N : Str → Int} {f : Str → V} {i : Int} : ∀ {l : List Str}, (∀ a ∈ l, N a ≠ i) → valV (tbN N f l) (Sum.inl i : Key) = none
  | [], _ => rfl
  | y :: l, hi => by
    show valV ((Sum.inl (N y), f y) :: tbN N f l) (Sum.inl i : Key) = _
    rw [valV_neg (fun z => hi y List.mem_cons_self (Sum.inl.inj z))]
    exact valN_out fun a ha => hi a (List.mem_cons_of_mem _ ha)
theorem dropN {N : Str → Int} {f : Str → V} {x : Str} : ∀ {l : List Str}, (∀ a ∈ l, N a = N x → a = x) → dropK (tbN N f l) (Sum.inl (N x) : Key) = tbN N f (but x l)
  | [], _ => rfl
  | y :: l, hi => by
    have ih := dropN (N := N) (f := f) (x := x) (l := l) fun a ha => hi a (List.mem_cons_of_mem _ ha)
    show dropK ((Sum.inl (N y), f y) :: tbN N f l) (Sum.inl (N x) : Key) = _
    by_cases e : y = x
    · subst e
      rw [dropK_pos rfl, ih, but_cons_self]
    · rw [dropK_neg (fun z => e (hi y List.mem_cons_self (Sum.inl.inj z))), ih, but_cons_ne _ e]
      rfl

/-! ### heaps -/
theorem upd_none {H : Hp} {a b : Addr} {o : HO} (h : upd H a o b = none) : b ≠ a ∧ H b = none := by
  by_cases e : b = a
  · subst e
    rw [upd_same] at h
    cases h
  · exact ⟨e, by rw [upd_ne e] at h; exact h⟩
/-- all that stood outside of F stands as it was -/
def Keeps (F : Addr → Prop) (H H' : Hp) : Prop := ∀ b o, H b = some o → ¬ F b → H' b = some o
/-- what is new in F' is a new object -/
def Grow (F : Addr → Prop) (H : Hp) (F' : Addr → Prop) : Prop := ∀ b, F' b → F b ∨ H b = none
/-- F's objects are there -/
def Lives (F : Addr → Prop) (H : Hp) : Prop := ∀ b, F b → ∃ o, H b = some o
theorem Keeps.refl (F : Addr → Prop) (H : Hp) : Keeps F H H := fun _ _ h _ => h
theorem Keeps.of_same {F : Addr → Prop} {H H' : Hp} (h : Same H H') : Keeps F H H' := fun b o e _ => h b o e
theorem Grow.refl (F : Addr → Prop) (H : Hp) : Grow F H F := fun _ h => .inl h
theorem Keeps.trans {F F' : Addr → Prop} {H H1 H2 : Hp} (k : Keeps F H H1) (g : Grow F H F') (k' : Keeps F' H1 H2) : Keeps F H H2 := fun b o e n =>
  k' b o (k b o e n) fun f => (g b f).elim n fun z => by rw [e] at z; cases z
/-- what is gone was in F -/
theorem Grow.trans {F F' F'' : Addr → Prop} {H H1 : Hp} (g : Grow F H F') (k : ∀ b, H1 b = none → H b = none ∨ F b) (g' : Grow F' H1 F'') : Grow F H F'' := fun b h =>
  (g' b h).elim (fun z => g b z) fun z => (k b z).symm.imp id id
theorem Keeps.none {F : Addr → Prop} {H H' : Hp} (k : Keeps F H H') : ∀ b, H' b = Option.none → H b = Option.none ∨ F b := fun b h => by
  by_cases f : F b
  · exact .inr f
  · cases e : H b with
    | none => exact .inl rfl
    | some o =>
      rw [k b o e f] at h
      cases h
theorem Keeps.mono {F G : Addr → Prop} {H H' : Hp} (k : Keeps F H H') (h : ∀ b, F b → G b) : Keeps G H H' := fun b o e n => k b o e fun f => n (h b f)
theorem Keeps.upd {F : Addr → Prop} {H H' : Hp} {a : Addr} {o : HO} (k : Keeps F H H') (h : F a ∨ H a = Option.none) : Keeps F H (upd H' a o) := fun b u e n => by
  have hb : b ≠ a := fun z => by
    subst z
    rcases h with h | h
    · exact n h
    · rw [e] at h
      cases h
  rw [upd_ne hb]
  exact k b u e n
theorem same_upd {H : Hp} {p : Addr} {o : HO} (hp : H p = none) : Same H (upd H p o) := fun b u e => by
  rw [upd_ne (ne_of_none e hp)]
  exact e
theorem same_upd2 {H H1 : Hp} {p : Addr} {o : HO} (s : Same H H1) (hp : H1 p = none) : Same H (upd H1 p o) := s.trans (same_upd hp)
end K24
/-! K24I: an Index as it lies: its rows, and of each word the names that have it. -/
namespace K24
open PySem PySem.Spec PyProof.Rows L2

def upg (g : Str → List Str) (w : Str) (l : List Str) : Str → List Str := fun y => if y = w then l else g y
/-- the words' table at e: of each word w the names g w; F: its objects -/
structure HoldAt (H : Hp) (e : Addr) (F : Addr → Prop) (g : Str → List Str) (n : Nat) (ks : List Str) (D : Str → Addr) : Prop where
  nd : ks.Nodup
  le : ks.length ≤ n
  iff : ∀ w, w ∈ ks ↔ g w ≠ []
  at_ : H e = some (.dK (tb (fun w => .ref (D w)) ks))
  row : ∀ w ∈ ks, H (D w) = some (.dK (tb (fun _ => .bl true) (g w)))
  ne : ∀ w ∈ ks, D w ≠ e
  inj : ∀ w ∈ ks, ∀ v ∈ ks, D w = D v → w = v
  fp : ∀ b, F b ↔ b = e ∨ ∃ w ∈ ks, b = D w
section
variable {H H' : Hp} {e : Addr} {F : Addr → Prop} {g : Str → List Str} {n : Nat} {ks : List Str} {D : Str → Addr} {w x : Str}
theorem HoldAt.dict (h : HoldAt H e F g n ks D) {b : Addr} (hb : F b) : ∃ kvs, H b = some (.dK kvs) := by
  rcases (h.fp b).mp hb with rfl | ⟨w, hw, rfl⟩
  · exact ⟨_, h.at_⟩
  · exact ⟨_, h.row w hw⟩
theorem HoldAt.keep (h : HoldAt H e F g n ks D) (k : ∀ b, F b → H' b = H b) : HoldAt H' e F g n ks D where
  nd := h.nd
  le := h.le
  iff := h.iff
  at_ := (k e ((h.fp e).mpr (.inl rfl))).trans h.at_
  row := fun w hw => (k _ ((h.fp _).mpr (.inr ⟨w, hw, rfl⟩))).trans (h.row w hw)
  ne := h.ne
  inj := h.inj
  fp := h.fp
theorem HoldAt.congr {g' : Str → List Str} (h : HoldAt H e F g n ks D) (k : ∀ w, g' w = g w) : HoldAt H e F g' n ks D := by
  have q : g' = g := funext k
  rw [q]
  exact h
theorem upg_same {l : List Str} : upg g w l w = l := if_pos rfl
theorem upg_ne {l : List Str} {y : Str} (h : y ≠ w) : upg g w l y = g y := if_neg h
/-- a name more to a word that is there -/
theorem HoldAt.addOld (h : HoldAt H e F g n ks D) (hw : w ∈ ks) (hx : x ∉ g w) :
    HoldAt (upd H (D w) (.dK (putK (tb (fun _ => .bl true) (g w)) (Sum.inr x : Key) (.bl true)))) e F (upg g w (g w ++ [x])) n ks D where
  nd := h.nd
  le := h.le
  iff := fun v => by
    by_cases q : v = w
    · subst q
      rw [upg_same]
      simp [hw]
    · rw [upg_ne q]
      exact h.iff v
  at_ := by rw [upd_ne (h.ne w hw).symm]; exact h.at_
  row := fun v hv => by
    by_cases q : v = w
    · subst q
      rw [upd_same, upg_same, putK_tb_same hx]
    · rw [upd_ne (fun z => q (h.inj v hv w hw z)), upg_ne q]
      exact h.row v hv
  ne := h.ne
  inj := h.inj
  fp := h.fp
/-- the first name of a word -/
theorem HoldAt.addNew {d : Addr} (h : HoldAt H e F g n ks D) (hw : w ∉ ks) (hd : ¬ F d) :
    HoldAt (upd (upd H e (.dK (putK (tb (fun w => .ref (D w)) ks) (Sum.inr w : Key) (.ref d)))) d (.dK (putK [] (Sum.inr x : Key) (.bl true)))) e (fun b => F b ∨ b = d) (upg g w (g w ++ [x])) (n + 1) (ks ++ [w]) (fun y => if y = w then d else D y) where
  nd := nd_snoc h.nd hw
  le := by
    rw [List.length_append, List.length_singleton]
    exact Nat.succ_le_succ h.le
  iff := fun v => by
    by_cases q : v = w
    · subst q
      rw [upg_same]
      simp
    · rw [upg_ne q, ← h.iff v, List.mem_append, List.mem_singleton]
      simp [q]
  at_ := by
    have ne : e ≠ d := fun z => hd (by rw [← z]; exact (h.fp e).mpr (.inl rfl))
    rw [upd_ne ne, upd_same, putK_tb _ hw]
    rw [tb_congr (f := fun y => if y = w then V.ref d else V.ref (D y)) (g := fun y => V.ref (if y = w then d else D y)) fun y _ => by split <;> rfl]
  row := fun v hv => by
    have g0 : g w = [] := by
      cases q : g w with
      | nil => rfl
      | cons a l => exact absurd ((h.iff w).mpr (by rw [q]; exact List.cons_ne_nil _ _)) hw
    by_cases q : v = w
    · subst q
      rw [if_pos rfl, upd_same, upg_same, g0]
      exact congrArg (fun l => some (HO.dK l)) (putK_tb_same (l := []) (by simp))
    · have hv' : v ∈ ks := (List.mem_append.mp hv).resolve_right fun z => q (List.mem_singleton.mp z)
      have nd : D v ≠ d := fun z => hd (by rw [← z]; exact (h.fp _).mpr (.inr ⟨v, hv', rfl⟩))
      rw [if_neg q, upd_ne nd, upd_ne (h.ne v hv'), upg_ne q]
      exact h.row v hv'
  ne := fun v hv => by
    by_cases q : v = w
    · rw [if_pos q]
      exact fun z => hd (by rw [z]; exact (h.fp e).mpr (.inl rfl))
    · have hv' : v ∈ ks := (List.mem_append.mp hv).resolve_right fun z => q (List.mem_singleton.mp z)
      rw [if_neg q]
      exact h.ne v hv'
  inj := fun v hv u hu z => by
    by_cases q : v = w
    · by_cases r : u = w
      · rw [q, r]
      · have hu' : u ∈ ks := (List.mem_append.mp hu).resolve_right fun z => r (List.mem_singleton.mp z)
        rw [if_pos q, if_neg r] at z
        exact absurd ((h.fp d).mpr (.inr ⟨u, hu', z⟩)) hd
    · have hv' : v ∈ ks := (List.mem_append.mp hv).resolve_right fun z => q (List.mem_singleton.mp z)
      by_cases r : u = w
      · rw [if_neg q, if_pos r] at z
        exact absurd ((h.fp d).mpr (.inr ⟨v, hv', z.symm⟩)) hd
      · have hu' : u ∈ ks := (List.mem_append.mp hu).resolve_right fun z => r (List.mem_singleton.mp z)
        rw [if_neg q, if_neg r] at z
        exact h.inj v hv' u hu' z
  fp := fun b => by
    constructor
    · rintro (hb | rfl)
      · rcases (h.fp b).mp hb with z | ⟨v, hv, z⟩
        · exact .inl z
        · have q : v ≠ w := fun q => hw (q ▸ hv)
          exact .inr ⟨v, List.mem_append_left _ hv, by rw [if_neg q]; exact z⟩
      · exact .inr ⟨w, List.mem_append_right _ (List.mem_singleton.mpr rfl), by rw [if_pos rfl]⟩
    · rintro (z | ⟨v, hv, z⟩)
      · exact .inl ((h.fp b).mpr (.inl z))
      · by_cases q : v = w
        · rw [if_pos q] at z
          exact .inr z
        · have hv' : v ∈ ks := (List.mem_append.mp hv).resolve_right fun z => q (List.mem_singleton.mp z)
          rw [if_neg q] at z
          exact .inl ((h.fp b).mpr (.inr ⟨v, hv', z⟩))
/-- a name less of a word that others have, too -/
theorem HoldAt.popOne (h : HoldAt H e F g n ks D) (hw : w ∈ ks) (hl : but x (g w) ≠ []) :
    HoldAt (upd H (D w) (.dK (tb (fun _ => .bl true) (but x (g w))))) e F (upg g w (but x (g w))) n ks D where
  nd := h.nd
  le := h.le
  iff := fun v => by
    by_cases q : v = w
    · subst q
      rw [upg_same]
      simp [hw, hl]
    · rw [upg_ne q]
      exact h.iff v
  at_ := by rw [upd_ne (h.ne w hw).symm]; exact h.at_
  row := fun v hv => by
    by_cases q : v = w
    · subst q
      rw [upd_same, upg_same]
    · rw [upd_ne (fun z => q (h.inj v hv w hw z)), upg_ne q]
      exact h.row v hv
  ne := h.ne
  inj := h.inj
  fp := h.fp
/-- the last name of a word goes, and the word -/
theorem HoldAt.popLast (h : HoldAt H e F g n ks D) (hw : w ∈ ks) (hl : but x (g w) = []) (o : HO) :
    HoldAt (upd (upd H (D w) o) e (.dK (dropK (tb (fun w => .ref (D w)) ks) (Sum.inr w : Key)))) e (fun b => b = e ∨ ∃ v ∈ but w ks, b = D v) (upg g w (but x (g w))) n (but w ks) D where
  nd := but_nodup h.nd
  le := Nat.le_trans (but_len w ks) h.le
  iff := fun v => by
    rw [mem_but]
    by_cases q : v = w
    · subst q
      rw [upg_same]
      simp [hl]
    · rw [upg_ne q, h.iff v]
      simp [q]
  at_ := by rw [upd_same, dropK_tb]
  row := fun v hv => by
    obtain ⟨hv1, q⟩ := mem_but.mp hv
    rw [upd_ne (h.ne v hv1), upd_ne (fun z => q (h.inj v hv1 w hw z)), upg_ne q]
    exact h.row v hv1
  ne := fun v hv => h.ne v (mem_but.mp hv).1
  inj := fun v hv u hu => h.inj v (mem_but.mp hv).1 u (mem_but.mp hu).1
  fp := fun b => Iff.rfl
end

/-! ### an Index -/
def fI (e1 e2 : Addr) : List (Str × V) := [("rows_of", .ref e1), ("holders", .ref e2)]
theorem hr_ : ¬ (("holders" : Str) = "rows_of") := by decide +kernel
theorem fI_rows (e1 e2 : Addr) : (fI e1 e2).lookup ("rows_of" : Str) = some (.ref e1) := by
  simp [fI, List.lookup]
theorem fI_hold (e1 e2 : Addr) : (fI e1 e2).lookup ("holders" : Str) = some (.ref e2) := by
  have h : (("holders" : Str) == "rows_of") = false := beq_eq_false_iff_ne.mpr hr_
  simp [fI, List.lookup, h]
theorem fI_no (e1 e2 : Addr) {m : Str} (h1 : ¬ m = "rows_of") (h2 : ¬ m = "holders") : (fI e1 e2).lookup m = none := by
  have q1 : (m == ("rows_of" : Str)) = false := beq_eq_false_iff_ne.mpr h1
  have q2 : (m == ("holders" : Str)) = false := beq_eq_false_iff_ne.mpr h2
  simp [fI, List.lookup, q1, q2]
/-- of each word the names of I that have it -/
def gI (I : List Str) (w : Str) : List Str := I.filter fun x => decide (w ∈ wl x)
theorem mem_gI {I : List Str} {w x : Str} : x ∈ gI I w ↔ x ∈ I ∧ w ∈ wl x := by
  unfold gI
  rw [List.mem_filter, decide_eq_true_eq]
theorem gI_snoc (I : List Str) (x w : Str) : gI (I ++ [x]) w = if w ∈ wl x then gI I w ++ [x] else gI I w := by
  unfold gI
  rw [List.filter_append]
  by_cases h : w ∈ wl x
  · rw [if_pos h, List.filter_cons_of_pos (by simpa using h), List.filter_nil]
  · rw [if_neg h, List.filter_cons_of_neg (by simpa using h), List.filter_nil, List.append_nil]
theorem gI_but (I : List Str) (x w : Str) : gI (but x I) w = if w ∈ wl x then but x (gI I w) else gI I w := by
  have e : gI (but x I) w = but x (gI I w) := by
    unfold gI but
    rw [List.filter_filter, List.filter_filter]
    congr 1
    funext y
    exact Bool.and_comm _ _
  rw [e]
  by_cases h : w ∈ wl x
  · rw [if_pos h]
  · rw [if_neg h, but_no fun z => h (mem_gI.mp z).2]
theorem gI_rent {I : List Str} : gI I tR = I := by
  unfold gI
  refine List.filter_eq_self.mpr fun x _ => decide_eq_true (mem_wl.mpr (.inr rfl))
/-- read alone: which names are there -/
def IdxRd (C : Addr) (H : Hp) (q : Addr) (I : List Str) : Prop := ∃ (dx e1 e2 : Addr) (f : Str → V), H q = some (.ins C dx (fI e1 e2)) ∧ H e1 = some (.dK (tb f I))
structure IdxD (C : Addr) (H : Hp) (q : Addr) (F : Addr → Prop) (I : List Str) (g : Str → List Str) (n : Nat) (dx e1 e2 : Addr) (R : Str → Addr) (Y : Str → List Str) (F2 : Addr → Prop) (ks : List Str) (D : Str → Addr) : Prop where
  ob : H q = some (.ins C dx (fI e1 e2))
  nd : I.Nodup
  rows : H e1 = some (.dK (tb (fun x => .ref (R x)) I))
  row : ∀ x ∈ I, H (R x) = some (.lst ((Y x).map V.str)) ∧ (Y x).Perm (wl x) ∧ sortedS (Y x) = true
  hold : HoldAt H e2 F2 g n ks D
  ne1 : ¬ F2 e1
  fp : ∀ b, F b ↔ b = q ∨ b = e1 ∨ F2 b ∨ ∃ x ∈ I, b = R x
/-- an Index at q with the names I; F: its objects -/
def IdxAt (C : Addr) (H : Hp) (q : Addr) (F : Addr → Prop) (I : List Str) : Prop := ∃ dx e1 e2 R Y F2 ks D, IdxD C H q F I (gI I) (I.length + 1) dx e1 e2 R Y F2 ks D
section
variable {C q : Addr} {H H' : Hp} {F : Addr → Prop} {I : List Str} {g : Str → List Str} {n : Nat} {dx e1 e2 : Addr} {R : Str → Addr} {Y : Str → List Str} {F2 : Addr → Prop} {ks : List Str} {D : Str → Addr} {w x : Str}
theorem IdxD.lives (d : IdxD C H q F I g n dx e1 e2 R Y F2 ks D) : Lives F H := fun b hb => by
  rcases (d.fp b).mp hb with rfl | rfl | hb | ⟨x, hx, rfl⟩
  · exact ⟨_, d.ob⟩
  · exact ⟨_, d.rows⟩
  · obtain ⟨kvs, e⟩ := d.hold.dict hb
    exact ⟨_, e⟩
  · exact ⟨_, (d.row x hx).1⟩
theorem IdxD.keep (d : IdxD C H q F I g n dx e1 e2 R Y F2 ks D) (k : ∀ b, F b → H' b = H b) : IdxD C H' q F I g n dx e1 e2 R Y F2 ks D := by
  have kb : ∀ b, (b = q ∨ b = e1 ∨ F2 b ∨ ∃ x ∈ I, b = R x) → H' b = H b := fun b hb => k b ((d.fp b).mpr hb)
  exact { ob := (kb q (.inl rfl)).trans d.ob, nd := d.nd, rows := (kb e1 (.inr (.inl rfl))).trans d.rows, row := fun x hx => ⟨(kb _ (.inr (.inr (.inr ⟨x, hx, rfl⟩)))).trans (d.row x hx).1, (d.row x hx).2⟩,
          hold := d.hold.keep fun b hb => kb b (.inr (.inr (.inl hb))), ne1 := d.ne1, fp := d.fp }
theorem same_at {o : Addr → Prop} (l : Lives F H) (k : Same H H') : ∀ b, F b → H' b = H b := fun b hb => by
  obtain ⟨o, e⟩ := l b hb
  rw [e]
  exact k b o e
theorem IdxD.same (d : IdxD C H q F I g n dx e1 e2 R Y F2 ks D) (k : Same H H') : IdxD C H' q F I g n dx e1 e2 R Y F2 ks D := d.keep (same_at (o := F) d.lives k)
theorem IdxD.congr {g' : Str → List Str} (d : IdxD C H q F I g n dx e1 e2 R Y F2 ks D) (k : ∀ w, g' w = g w) : IdxD C H q F I g' n dx e1 e2 R Y F2 ks D :=
  { d with hold := d.hold.congr k }
theorem IdxD.qne (d : IdxD C H q F I g n dx e1 e2 R Y F2 ks D) {b : Addr} {kvs : List (Key × V)} (hb : H b = some (.dK kvs)) : q ≠ b := ne_of d.ob hb (by intro z; cases z)
theorem IdxD.rne (d : IdxD C H q F I g n dx e1 e2 R Y F2 ks D) {y : Str} (hy : y ∈ I) {b : Addr} {kvs : List (Key × V)} (hb : H b = some (.dK kvs)) : R y ≠ b := ne_of (d.row y hy).1 hb (by intro z; cases z)
theorem IdxD.addOld (d : IdxD C H q F I g n dx e1 e2 R Y F2 ks D) (hw : w ∈ ks) (hx : x ∉ g w) :
    IdxD C (upd H (D w) (.dK (putK (tb (fun _ => .bl true) (g w)) (Sum.inr x : Key) (.bl true)))) q F I (upg g w (g w ++ [x])) n dx e1 e2 R Y F2 ks D where
  ob := by rw [upd_ne (d.qne (d.hold.row w hw))]; exact d.ob
  nd := d.nd
  rows := by
    rw [upd_ne (fun z => d.ne1 ((d.hold.fp e1).mpr (.inr ⟨w, hw, z⟩)))]
    exact d.rows
  row := fun y hy => ⟨by rw [upd_ne (d.rne hy (d.hold.row w hw))]; exact (d.row y hy).1, (d.row y hy).2⟩
  hold := d.hold.addOld hw hx
  ne1 := d.ne1
  fp := d.fp
theorem IdxD.addNew {t : Addr} (d : IdxD C H q F I g n dx e1 e2 R Y F2 ks D) (hw : w ∉ ks) (ht : H t = none) :
    IdxD C (upd (upd H e2 (.dK (putK (tb (fun w => .ref (D w)) ks) (Sum.inr w : Key) (.ref t)))) t (.dK (putK [] (Sum.inr x : Key) (.bl true)))) q (fun b => F b ∨ b = t) I (upg g w (g w ++ [x])) (n + 1) dx e1 e2 R Y
      (fun b => F2 b ∨ b = t) (ks ++ [w]) (fun y => if y = w then t else D y) where
  ob := by rw [upd_ne (ne_of_none d.ob ht), upd_ne (d.qne d.hold.at_)]; exact d.ob
  nd := d.nd
  rows := by
    rw [upd_ne (ne_of_none d.rows ht), upd_ne (fun z => d.ne1 ((d.hold.fp e1).mpr (.inl z)))]
    exact d.rows
  row := fun y hy => ⟨by rw [upd_ne (ne_of_none (d.row y hy).1 ht), upd_ne (d.rne hy d.hold.at_)]; exact (d.row y hy).1, (d.row y hy).2⟩
  hold := d.hold.addNew hw fun f => by
    obtain ⟨kvs, e⟩ := d.hold.dict f
    rw [ht] at e
    cases e
  ne1 := fun z => z.elim d.ne1 (ne_of_none d.rows ht)
  fp := fun b => by
    rw [d.fp b]
    constructor
    · rintro ((z | z | z | z) | z)
      · exact .inl z
      · exact .inr (.inl z)
      · exact .inr (.inr (.inl (.inl z)))
      · exact .inr (.inr (.inr z))
      · exact .inr (.inr (.inl (.inr z)))
    · rintro (z | z | (z | z) | z)
      · exact .inl (.inl z)
      · exact .inl (.inr (.inl z))
      · exact .inl (.inr (.inr (.inl z)))
      · exact .inr z
      · exact .inl (.inr (.inr (.inr z)))
theorem IdxD.popOne (d : IdxD C H q F I g n dx e1 e2 R Y F2 ks D) (hw : w ∈ ks) (hl : but x (g w) ≠ []) :
    IdxD C (upd H (D w) (.dK (tb (fun _ => .bl true) (but x (g w))))) q F I (upg g w (but x (g w))) n dx e1 e2 R Y F2 ks D where
  ob := by rw [upd_ne (d.qne (d.hold.row w hw))]; exact d.ob
  nd := d.nd
  rows := by
    rw [upd_ne (fun z => d.ne1 ((d.hold.fp e1).mpr (.inr ⟨w, hw, z⟩)))]
    exact d.rows
  row := fun y hy => ⟨by rw [upd_ne (d.rne hy (d.hold.row w hw))]; exact (d.row y hy).1, (d.row y hy).2⟩
  hold := d.hold.popOne hw hl
  ne1 := d.ne1
  fp := d.fp
theorem IdxD.popLast (d : IdxD C H q F I g n dx e1 e2 R Y F2 ks D) (hw : w ∈ ks) (hl : but x (g w) = []) (o : HO) :
    IdxD C (upd (upd H (D w) o) e2 (.dK (dropK (tb (fun w => .ref (D w)) ks) (Sum.inr w : Key)))) q (fun b => b = q ∨ b = e1 ∨ (b = e2 ∨ ∃ v ∈ but w ks, b = D v) ∨ ∃ x ∈ I, b = R x) I (upg g w (but x (g w))) n dx e1 e2 R Y
      (fun b => b = e2 ∨ ∃ v ∈ but w ks, b = D v) (but w ks) D where
  ob := by rw [upd_ne (d.qne d.hold.at_), upd_ne (d.qne (d.hold.row w hw))]; exact d.ob
  nd := d.nd
  rows := by
    rw [upd_ne (fun z => d.ne1 ((d.hold.fp e1).mpr (.inl z))), upd_ne (fun z => d.ne1 ((d.hold.fp e1).mpr (.inr ⟨w, hw, z⟩)))]
    exact d.rows
  row := fun y hy => ⟨by rw [upd_ne (d.rne hy d.hold.at_), upd_ne (d.rne hy (d.hold.row w hw))]; exact (d.row y hy).1, (d.row y hy).2⟩
  hold := d.hold.popLast hw hl o
  ne1 := fun z => d.ne1 ((d.hold.fp e1).mpr (z.imp id fun ⟨v, hv, q⟩ => ⟨v, (mem_but.mp hv).1, q⟩))
  fp := fun b => Iff.rfl
/-- a name's row goes -/
theorem IdxD.popRow (d : IdxD C H q F I g n dx e1 e2 R Y F2 ks D) :
    IdxD C (upd H e1 (.dK (dropK (tb (fun x => .ref (R x)) I) (Sum.inr x : Key)))) q (fun b => b = q ∨ b = e1 ∨ F2 b ∨ ∃ y ∈ but x I, b = R y) (but x I) g n dx e1 e2 R Y F2 ks D where
  ob := by rw [upd_ne (d.qne d.rows)]; exact d.ob
  nd := but_nodup d.nd
  rows := by rw [upd_same, dropK_tb]
  row := fun y hy => ⟨by rw [upd_ne (d.rne (mem_but.mp hy).1 d.rows)]; exact (d.row y (mem_but.mp hy).1).1, (d.row y (mem_but.mp hy).1).2⟩
  hold := d.hold.keep fun b hb => upd_ne fun z => d.ne1 (z ▸ hb)
  ne1 := d.ne1
  fp := fun b => Iff.rfl
/-- a name's row comes -/
theorem IdxD.putRow {t : Addr} {ys : List Str} (d : IdxD C H q F I g n dx e1 e2 R Y F2 ks D) (hx : x ∉ I) (ht : H t = none) (hp : ys.Perm (wl x)) (hs : sortedS ys = true) :
    IdxD C (upd (upd H t (.lst (ys.map V.str))) e1 (.dK (putK (tb (fun x => .ref (R x)) I) (Sum.inr x : Key) (.ref t)))) q (fun b => F b ∨ b = t) (I ++ [x]) g n dx e1 e2 (fun y => if y = x then t else R y) (fun y => if y = x then ys else Y y) F2 ks D where
  ob := by rw [upd_ne (d.qne d.rows), upd_ne (ne_of_none d.ob ht)]; exact d.ob
  nd := nd_snoc d.nd hx
  rows := by
    rw [upd_same, putK_tb _ hx, tb_congr (f := fun y => if y = x then V.ref t else V.ref (R y)) (g := fun y => V.ref (if y = x then t else R y)) fun y _ => by split <;> rfl]
  row := fun y hy => by
    by_cases q : y = x
    · subst q
      rw [if_pos rfl, if_pos rfl, upd_ne (fun z => by rw [z, d.rows] at ht; cases ht), upd_same]
      exact ⟨rfl, hp, hs⟩
    · have hy' : y ∈ I := (List.mem_append.mp hy).resolve_right fun z => q (List.mem_singleton.mp z)
      rw [if_neg q, if_neg q, upd_ne (d.rne hy' d.rows), upd_ne (ne_of_none (d.row y hy').1 ht)]
      exact d.row y hy'
  hold := d.hold.keep fun b hb => by
    have h1 : b ≠ e1 := fun z => d.ne1 (z ▸ hb)
    obtain ⟨kvs, e⟩ := d.hold.dict hb
    rw [upd_ne h1, upd_ne (ne_of_none e ht)]
  ne1 := d.ne1
  fp := fun b => by
    rw [d.fp b]
    constructor
    · rintro ((z | z | z | ⟨y, hy, z⟩) | z)
      · exact .inl z
      · exact .inr (.inl z)
      · exact .inr (.inr (.inl z))
      · have q : y ≠ x := fun q => hx (q ▸ hy)
        exact .inr (.inr (.inr ⟨y, List.mem_append_left _ hy, by rw [if_neg q]; exact z⟩))
      · exact .inr (.inr (.inr ⟨x, List.mem_append_right _ (List.mem_singleton.mpr rfl), by rw [if_pos rfl]; exact z⟩))
    · rintro (z | z | z | ⟨y, hy, z⟩)
      · exact .inl (.inl z)
      · exact .inl (.inr (.inl z))
      · exact .inl (.inr (.inr (.inl z)))
      · by_cases q : y = x
        · rw [if_pos q] at z
          exact .inr z
        · have hy' : y ∈ I := (List.mem_append.mp hy).resolve_right fun z => q (List.mem_singleton.mp z)
          rw [if_neg q] at z
          exact .inl (.inr (.inr (.inr ⟨y, hy', z⟩)))
end
section
variable {C q : Addr} {H H' : Hp} {F : Addr → Prop} {I : List Str}
theorem IdxAt.rd (h : IdxAt C H q F I) : IdxRd C H q I := by
  obtain ⟨dx, e1, e2, R, Y, F2, ks, D, d⟩ := h
  exact ⟨dx, e1, e2, _, d.ob, d.rows⟩
theorem IdxAt.lives (h : IdxAt C H q F I) : Lives F H := by
  obtain ⟨dx, e1, e2, R, Y, F2, ks, D, d⟩ := h
  exact d.lives
theorem IdxAt.keep (h : IdxAt C H q F I) (k : ∀ b, F b → H' b = H b) : IdxAt C H' q F I := by
  obtain ⟨dx, e1, e2, R, Y, F2, ks, D, d⟩ := h
  exact ⟨dx, e1, e2, R, Y, F2, ks, D, d.keep k⟩
theorem IdxAt.same (h : IdxAt C H q F I) (k : Same H H') : IdxAt C H' q F I := h.keep fun b hb => by
  obtain ⟨o, e⟩ := h.lives b hb
  rw [e]
  exact k b o e
theorem IdxRd.same (h : IdxRd C H q I) (k : Same H H') : IdxRd C H' q I := by
  obtain ⟨dx, e1, e2, f, a, b⟩ := h
  exact ⟨dx, e1, e2, f, k _ _ a, k _ _ b⟩
theorem IdxAt.nd (h : IdxAt C H q F I) : I.Nodup := by
  obtain ⟨dx, e1, e2, R, Y, F2, ks, D, d⟩ := h
  exact d.nd
theorem IdxAt.me (h : IdxAt C H q F I) : F q := by
  obtain ⟨dx, e1, e2, R, Y, F2, ks, D, d⟩ := h
  exact (d.fp q).mpr (.inl rfl)
/-- how many words there are -/
theorem holdLen {e : Addr} {F2 : Addr → Prop} {n : Nat} {ks : List Str} {D : Str → Addr} (h : HoldAt H e F2 (gI I) n ks D) : ks.length ≤ I.length + 1 := by
  refine Nat.le_trans (length_le_of_sub (l := I ++ [tR]) h.nd fun w hw => ?_) (by rw [List.length_append, List.length_singleton]; exact Nat.le_refl _)
  have hg := (h.iff w).mp hw
  cases q : gI I w with
  | nil => exact absurd q hg
  | cons x l =>
    obtain ⟨h1, h2⟩ := mem_gI.mp (show x ∈ gI I w by rw [q]; exact List.mem_cons_self)
    rcases mem_wl.mp h2 with z | z
    · rw [z]
      exact List.mem_append_left _ h1
    · rw [z]
      exact List.mem_append_right _ (List.mem_singleton.mpr rfl)
theorem HoldAt.mono {e : Addr} {F2 : Addr → Prop} {g : Str → List Str} {n m : Nat} {ks : List Str} {D : Str → Addr} (h : HoldAt H e F2 g n ks D) (hm : ks.length ≤ m) : HoldAt H e F2 g m ks D :=
  ⟨h.nd, hm, h.iff, h.at_, h.row, h.ne, h.inj, h.fp⟩
end
end K24
/-! K24H: Threads as they lie. -/
namespace K24
open PySem PySem.Spec PyProof.Rows L2

def fT (d1 d2 d3 d4 : Addr) (n : Int) : List (Str × V) := [("goes_to", .ref d1), ("pile_of", .ref d2), ("piles", .ref d3), ("comes_from", .ref d4), ("made", .int n)]
theorem e21 : (("pile_of" : Str) == "goes_to") = false := by decide +kernel
theorem e31 : (("piles" : Str) == "goes_to") = false := by decide +kernel
theorem e32 : (("piles" : Str) == "pile_of") = false := by decide +kernel
theorem e41 : (("comes_from" : Str) == "goes_to") = false := by decide +kernel
theorem e42 : (("comes_from" : Str) == "pile_of") = false := by decide +kernel
theorem e43 : (("comes_from" : Str) == "piles") = false := by decide +kernel
theorem e51 : (("made" : Str) == "goes_to") = false := by decide +kernel
theorem e52 : (("made" : Str) == "pile_of") = false := by decide +kernel
theorem e53 : (("made" : Str) == "piles") = false := by decide +kernel
theorem e54 : (("made" : Str) == "comes_from") = false := by decide +kernel
section
variable (d1 d2 d3 d4 : Addr) (n : Int)
theorem fT_go : (fT d1 d2 d3 d4 n).lookup ("goes_to" : Str) = some (.ref d1) := by simp [fT, List.lookup]
theorem fT_po : (fT d1 d2 d3 d4 n).lookup ("pile_of" : Str) = some (.ref d2) := by simp [fT, List.lookup, e21]
theorem fT_pi : (fT d1 d2 d3 d4 n).lookup ("piles" : Str) = some (.ref d3) := by simp [fT, List.lookup, e31, e32]
theorem fT_fr : (fT d1 d2 d3 d4 n).lookup ("comes_from" : Str) = some (.ref d4) := by simp [fT, List.lookup, e41, e42, e43]
theorem fT_md : (fT d1 d2 d3 d4 n).lookup ("made" : Str) = some (.int n) := by simp [fT, List.lookup, e51, e52, e53, e54]
theorem fT_no {m : Str} (h1 : ¬ m = "goes_to") (h2 : ¬ m = "pile_of") (h3 : ¬ m = "piles") (h4 : ¬ m = "comes_from") (h5 : ¬ m = "made") : (fT d1 d2 d3 d4 n).lookup m = none := by
  have q1 : (m == ("goes_to" : Str)) = false := beq_eq_false_iff_ne.mpr h1
  have q2 : (m == ("pile_of" : Str)) = false := beq_eq_false_iff_ne.mpr h2
  have q3 : (m == ("piles" : Str)) = false := beq_eq_false_iff_ne.mpr h3
  have q4 : (m == ("comes_from" : Str)) = false := beq_eq_false_iff_ne.mpr h4
  have q5 : (m == ("made" : Str)) = false := beq_eq_false_iff_ne.mpr h5
  simp [fT, List.lookup, q1, q2, q3, q4, q5]
theorem nE {a b : Str} (h : (b == a) = false) : ¬ a = b := fun z => (beq_eq_false_iff_ne.mp h) z.symm
theorem fT_put (m : Int) : putF "made" (.int m) (fT d1 d2 d3 d4 n) = fT d1 d2 d3 d4 m := by
  simp [fT, putF, nE e51, nE e52, nE e53, nE e54]
theorem fT_init : putF "made" (.int n) (putF "comes_from" (.ref d4) (putF "piles" (.ref d3) (putF "pile_of" (.ref d2) (putF "goes_to" (.ref d1) [])))) = fT d1 d2 d3 d4 n := by
  simp [fT, putF, nE e21, nE e31, nE e32, nE e41, nE e42, nE e43, nE e51, nE e52, nE e53, nE e54]
end

structure ThrD (C : Addr) (H : Hp) (p : Addr) (F : Addr → Prop) (T : List Str) (dx d1 d2 d3 d4 : Addr) (n : Int) (N : Str → Int) (L : Str → Addr) (dc : Addr) : Prop where
  ob : H p = some (.ins C dx (fT d1 d2 d3 d4 n))
  nd : T.Nodup
  go : H d1 = some (.dK (tb (fun _ => .str "") T))
  po : H d2 = some (.dK (tb (fun x => .int (N x)) T))
  pi : H d3 = some (.dK (tbN N (fun x => .ref (L x)) T))
  row : ∀ x ∈ T, H (L x) = some (.lst [.str x]) ∧ N x ≤ n
  inj : ∀ x ∈ T, ∀ y ∈ T, N x = N y → x = y
  fr : H d4 = some (.dK (if T = [] then [] else [(Sum.inr "", .ref dc)]))
  fc : T ≠ [] → H dc = some (.dK (tb (fun _ => .bl true) T)) ∧ dc ≠ d1 ∧ dc ≠ d2 ∧ dc ≠ d3 ∧ dc ≠ d4
  ne : d1 ≠ d2 ∧ d1 ≠ d3 ∧ d1 ≠ d4 ∧ d2 ≠ d3 ∧ d2 ≠ d4 ∧ d3 ≠ d4
  fp : ∀ b, F b ↔ b = p ∨ b = d1 ∨ b = d2 ∨ b = d3 ∨ b = d4 ∨ (T ≠ [] ∧ b = dc) ∨ ∃ x ∈ T, b = L x
/-- Threads at p with the names T, each of which answers none; F: its objects -/
def ThrAt (C : Addr) (H : Hp) (p : Addr) (F : Addr → Prop) (T : List Str) : Prop := ∃ dx d1 d2 d3 d4 n N L dc, ThrD C H p F T dx d1 d2 d3 d4 n N L dc
/-- read alone: which names are there -/
def ThrRd (C : Addr) (H : Hp) (p : Addr) (T : List Str) : Prop := ∃ (dx d1 d2 d3 d4 : Addr) (n : Int) (f : Str → V), H p = some (.ins C dx (fT d1 d2 d3 d4 n)) ∧ H d1 = some (.dK (tb f T))
/-- read alone: x is there, and alone in its pile of those that are -/
def ThrOne (C : Addr) (H : Hp) (p : Addr) (T : List Str) (x : Str) : Prop :=
  ∃ (dx d1 d2 d3 d4 : Addr) (n : Int) (f : Str → V) (k2 k3 : List (Key × V)) (m : Int) (l : Addr) (ys : List Str), H p = some (.ins C dx (fT d1 d2 d3 d4 n)) ∧ H d1 = some (.dK (tb f T)) ∧
    H d2 = some (.dK k2) ∧ valV k2 (Sum.inr x : Key) = some (.int m) ∧ H d3 = some (.dK k3) ∧ valV k3 (Sum.inl m : Key) = some (.ref l) ∧ H l = some (.lst (ys.map V.str)) ∧
    ys.length ≤ 10 ∧ ys.filter (fun y => decide (y ∈ T)) = [x]
section
variable {C p : Addr} {H H' : Hp} {F : Addr → Prop} {T : List Str}
theorem ThrAt.rd (h : ThrAt C H p F T) : ThrRd C H p T := by
  obtain ⟨dx, d1, d2, d3, d4, n, N, L, dc, d⟩ := h
  exact ⟨dx, d1, d2, d3, d4, n, _, d.ob, d.go⟩
theorem ThrAt.lives (h : ThrAt C H p F T) : Lives F H := fun b hb => by
  obtain ⟨dx, d1, d2, d3, d4, n, N, L, dc, d⟩ := h
  rcases (d.fp b).mp hb with rfl | rfl | rfl | rfl | rfl | ⟨ht, rfl⟩ | ⟨x, hx, rfl⟩
  · exact ⟨_, d.ob⟩
  · exact ⟨_, d.go⟩
  · exact ⟨_, d.po⟩
  · exact ⟨_, d.pi⟩
  · exact ⟨_, d.fr⟩
  · exact ⟨_, (d.fc ht).1⟩
  · exact ⟨_, (d.row x hx).1⟩
theorem ThrAt.keep (h : ThrAt C H p F T) (k : ∀ b, F b → H' b = H b) : ThrAt C H' p F T := by
  obtain ⟨dx, d1, d2, d3, d4, n, N, L, dc, d⟩ := h
  have kb : ∀ b, (b = p ∨ b = d1 ∨ b = d2 ∨ b = d3 ∨ b = d4 ∨ (T ≠ [] ∧ b = dc) ∨ ∃ x ∈ T, b = L x) → H' b = H b := fun b hb => k b ((d.fp b).mpr hb)
  exact ⟨dx, d1, d2, d3, d4, n, N, L, dc,
    { ob := (kb p (by simp)).trans d.ob, nd := d.nd, go := (kb d1 (by simp)).trans d.go, po := (kb d2 (by simp)).trans d.po, pi := (kb d3 (by simp)).trans d.pi,
      row := fun x hx => ⟨(kb _ (by refine .inr (.inr (.inr (.inr (.inr (.inr ⟨x, hx, rfl⟩)))))) ).trans (d.row x hx).1, (d.row x hx).2⟩, inj := d.inj, fr := (kb d4 (by simp)).trans d.fr,
      fc := fun ht => ⟨(kb dc (by simp [ht])).trans (d.fc ht).1, (d.fc ht).2⟩, ne := d.ne, fp := d.fp }⟩
theorem ThrAt.same (h : ThrAt C H p F T) (k : Same H H') : ThrAt C H' p F T := h.keep fun b hb => by
  obtain ⟨o, e⟩ := h.lives b hb
  rw [e]
  exact k b o e
theorem ThrRd.same (h : ThrRd C H p T) (k : Same H H') : ThrRd C H' p T := by
  obtain ⟨dx, d1, d2, d3, d4, n, f, a, b⟩ := h
  exact ⟨dx, d1, d2, d3, d4, n, f, k _ _ a, k _ _ b⟩
theorem ThrAt.nd (h : ThrAt C H p F T) : T.Nodup := by
  obtain ⟨dx, d1, d2, d3, d4, n, N, L, dc, d⟩ := h
  exact d.nd
theorem ThrAt.me (h : ThrAt C H p F T) : F p := by
  obtain ⟨dx, d1, d2, d3, d4, n, N, L, dc, d⟩ := h
  exact (d.fp p).mpr (.inl rfl)
theorem ThrAt.one (h : ThrAt C H p F T) {x : Str} (hx : x ∈ T) : ThrOne C H p T x := by
  obtain ⟨dx, d1, d2, d3, d4, n, N, L, dc, d⟩ := h
  refine ⟨dx, d1, d2, d3, d4, n, _, _, _, N x, L x, [x], d.ob, d.go, d.po, valV_in hx, d.pi, valN_in d.inj hx, (d.row x hx).1, by simp, ?_⟩
  rw [List.filter_cons_of_pos (by simpa using hx), List.filter_nil]
end
end K24
/-! K24T: the text by places, and what stands behind the top. -/
namespace K24
open PySem PySem.Spec PyProof.Rows L2
def top (i : Nat) : Stmt := PySem.Challenge.pw_mailroom_k24_there_or_not.main.body.getD i (.Pass ⟨0, 0, 0, 0⟩)
abbrev sII : Stmt := inClass (top 9) 0
abbrev sIS : Stmt := inClass (top 9) 1
abbrev sIA : Stmt := inClass (top 9) 2
abbrev sIT : Stmt := inClass (top 9) 3
abbrev sIH : Stmt := inClass (top 9) 4
abbrev sIW : Stmt := inClass (top 9) 5
abbrev sIL : Stmt := inClass (top 9) 6
abbrev sTI : Stmt := inClass (top 11) 0
abbrev sTP : Stmt := inClass (top 11) 1
abbrev sTG : Stmt := inClass (top 11) 2
abbrev sTH : Stmt := inClass (top 11) 3
abbrev sTS : Stmt := inClass (top 11) 4
abbrev sTA : Stmt := inClass (top 11) 5
abbrev sTT : Stmt := inClass (top 11) 6
abbrev sTN : Stmt := inClass (top 11) 7
abbrev sTR : Stmt := inClass (top 11) 8
abbrev sTL : Stmt := inClass (top 11) 9
abbrev sTW : Stmt := inClass (top 11) 10
abbrev sTD : Stmt := inClass (top 11) 11
abbrev sLD : Stmt := top 13
abbrev sLN : Stmt := top 14
abbrev sLP : Stmt := top 15
abbrev sLC : Stmt := top 16
abbrev sLR : Stmt := top 17
abbrev sLU : Stmt := top 18
abbrev sLS : Stmt := top 19
abbrev sLL : Stmt := top 20
theorem scII : FnScope ["self"] ["self"] (defScope sII) := ⟨rfl, rfl, rfl, by decide +kernel, rfl, by decide +kernel, by decide +kernel⟩
theorem scIS : FnScope ["self", "name"] ["self", "name"] (defScope sIS) := ⟨rfl, rfl, rfl, by decide +kernel, rfl, by decide +kernel, by decide +kernel⟩
theorem scIA : FnScope ["self", "name", "words", "word"] ["self", "name", "words"] (defScope sIA) := ⟨rfl, rfl, rfl, by decide +kernel, rfl, by decide +kernel, by decide +kernel⟩
theorem scIT : FnScope ["self", "name", "word"] ["self", "name"] (defScope sIT) := ⟨rfl, rfl, rfl, by decide +kernel, rfl, by decide +kernel, by decide +kernel⟩
theorem scIH : FnScope ["self", "word"] ["self", "word"] (defScope sIH) := ⟨rfl, rfl, rfl, by decide +kernel, rfl, by decide +kernel, by decide +kernel⟩
theorem scIW : FnScope ["self", "name"] ["self", "name"] (defScope sIW) := ⟨rfl, rfl, rfl, by decide +kernel, rfl, by decide +kernel, by decide +kernel⟩
theorem scIL : FnScope ["self"] ["self"] (defScope sIL) := ⟨rfl, rfl, rfl, by decide +kernel, rfl, by decide +kernel, by decide +kernel⟩
theorem scTI : FnScope ["self"] ["self"] (defScope sTI) := ⟨rfl, rfl, rfl, by decide +kernel, rfl, by decide +kernel, by decide +kernel⟩
theorem scTP : FnScope ["self", "name"] ["self", "name"] (defScope sTP) := ⟨rfl, rfl, rfl, by decide +kernel, rfl, by decide +kernel, by decide +kernel⟩
theorem scTG : FnScope ["self", "one", "other", "moved", "name"] ["self", "one", "other"] (defScope sTG) := ⟨rfl, rfl, rfl, by decide +kernel, rfl, by decide +kernel, by decide +kernel⟩
theorem scTH : FnScope ["self", "name", "here"] ["self", "name"] (defScope sTH) := ⟨rfl, rfl, rfl, by decide +kernel, rfl, by decide +kernel, by decide +kernel⟩
theorem scTS : FnScope ["self", "name"] ["self", "name"] (defScope sTS) := ⟨rfl, rfl, rfl, by decide +kernel, rfl, by decide +kernel, by decide +kernel⟩
theorem scTA : FnScope ["self", "name", "answers"] ["self", "name", "answers"] (defScope sTA) := ⟨rfl, rfl, rfl, by decide +kernel, rfl, by decide +kernel, by decide +kernel⟩
theorem scTT : FnScope ["self", "name", "answers", "old", "one"] ["self", "name"] (defScope sTT) := ⟨rfl, rfl, rfl, by decide +kernel, rfl, by decide +kernel, by decide +kernel⟩
theorem scTN : FnScope ["self"] ["self"] (defScope sTN) := ⟨rfl, rfl, rfl, by decide +kernel, rfl, by decide +kernel, by decide +kernel⟩
theorem scTR : FnScope ["self", "name", "one"] ["self", "name"] (defScope sTR) := ⟨rfl, rfl, rfl, by decide +kernel, rfl, by decide +kernel, by decide +kernel⟩
theorem scTL : FnScope ["self", "found", "told", "name"] ["self"] (defScope sTL) := ⟨rfl, rfl, rfl, by decide +kernel, rfl, by decide +kernel, by decide +kernel⟩
theorem scTW : FnScope ["self", "name"] ["self", "name"] (defScope sTW) := ⟨rfl, rfl, rfl, by decide +kernel, rfl, by decide +kernel, by decide +kernel⟩
theorem scTD : FnScope ["self", "name", "met", "above"] ["self", "name"] (defScope sTD) := ⟨rfl, rfl, rfl, by decide +kernel, rfl, by decide +kernel, by decide +kernel⟩
theorem scLD : FnScope ["_law_script", "_law_many", "_law_found", "_law_more", "_law_k", "_law_cell"] ["_law_script", "_law_many"] (defScope sLD) := ⟨rfl, rfl, rfl, by decide +kernel, rfl, by decide +kernel, by decide +kernel⟩
theorem scLN : FnScope ["_law_shape", "_law_k", "_law_signs", "_law_place", "_law_name", "_law_turn"] ["_law_shape", "_law_k"] (defScope sLN) := ⟨rfl, rfl, rfl, by decide +kernel, rfl, by decide +kernel, by decide +kernel⟩
theorem scLP : FnScope ["_law_draws_here", "_law_many", "_law_k"] ["_law_draws_here"] (defScope sLP) := ⟨rfl, rfl, rfl, by decide +kernel, rfl, by decide +kernel, by decide +kernel⟩
theorem scLC : FnScope ["_law_call", "_law_threads", "_law_index", "_law_name", "_law_bad"] ["_law_call", "_law_threads", "_law_index", "_law_name", "_law_bad"] (defScope sLC) := ⟨rfl, rfl, rfl, by decide +kernel, rfl, by decide +kernel, by decide +kernel⟩
theorem scLR : FnScope ["_law_call", "_law_threads", "_law_index", "_law_name", "e", "_law_others"] ["_law_call", "_law_threads", "_law_index", "_law_name"] (defScope sLR) := ⟨rfl, rfl, rfl, by decide +kernel, rfl, by decide +kernel, by decide +kernel⟩
theorem scLU : FnScope ["_law_call", "_law_name"] ["_law_call", "_law_name"] (defScope sLU) := ⟨rfl, rfl, rfl, by decide +kernel, rfl, by decide +kernel, by decide +kernel⟩
theorem scLS : FnScope ["_law_call", "_law_threads", "_law_index", "_law_name", "_law_there", "_law_mine", "_law_found"] ["_law_call", "_law_threads", "_law_index", "_law_name", "_law_there"] (defScope sLS) := ⟨rfl, rfl, rfl, by decide +kernel, rfl, by decide +kernel, by decide +kernel⟩
theorem scLL : FnScope ["_law_script", "_law_draws_here", "_law_pool_here", "_law_threads", "_law_index", "_law_there", "_law_k", "_law_name", "_law_call", "_law_other"] ["_law_script"] (defScope sLL) := ⟨rfl, rfl, rfl, by decide +kernel, rfl, by decide +kernel, by decide +kernel⟩
/-- where the classes and the defs stand -/
structure Ads where
  (CI CT CM CN CW CL CR CP CO : Addr)
  (fII fIS fIA fIT fIH fIW fIL fTI fTP fTG fTH fTS fTA fTT fTN fTR fTL fTW fTD fLD fLN fLP fLC fLR fLU fLS fLL : Addr)
/-- an exception class that is not met -/
structure Txt (K : PySem.W.Frag) (mg : Str → Option Value) (a : Ads) : Prop where
  clI : Cls K a.CI
  clT : Cls K a.CT
  nI_rows_of : NoAttr K a.CI "rows_of"
  nI_holders : NoAttr K a.CI "holders"
  nT_goes_to : NoAttr K a.CT "goes_to"
  nT_pile_of : NoAttr K a.CT "pile_of"
  nT_piles : NoAttr K a.CT "piles"
  nT_comes_from : NoAttr K a.CT "comes_from"
  nT_made : NoAttr K a.CT "made"
  gCI : mg "Index" = some (.ref a.CI)
  gCT : mg "Threads" = some (.ref a.CT)
  gCM : mg "MailError" = some (.ref a.CM)
  gCN : mg "NoName" = some (.ref a.CN)
  gCW : mg "NoWord" = some (.ref a.CW)
  gCL : mg "NoLetter" = some (.ref a.CL)
  gCR : mg "NoRule" = some (.ref a.CR)
  gCP : mg "NoParcel" = some (.ref a.CP)
  gCO : mg "NoRow" = some (.ref a.CO)
  mkI : Mk K a.CI a.fII
  mkT : Mk K a.CT a.fTI
  xN : PySem.W.excIn K a.CN [.type "ValueError", .type "Exception", .type "BaseException", .type "object"] "ValueError.__new__" = true
  kN : PySem.W.keepIn K (.ref a.CN) = true
  bN : PySem.W.subIn K (.ref a.CN) (.type "BaseException") = some true
  tN : PySem.W.typeIn K (.ref a.CN) = some (.type "type")
  eM : PySem.W.exmOne K (.ref a.CN) (.ref a.CM) = some true
  exN : ExcC K a.CN
  iCW : PySem.W.kitOne K (.ref a.CN) (.ref a.CW) = some false
  iCL : PySem.W.kitOne K (.ref a.CN) (.ref a.CL) = some false
  iCR : PySem.W.kitOne K (.ref a.CN) (.ref a.CR) = some false
  iCP : PySem.W.kitOne K (.ref a.CN) (.ref a.CP) = some false
  iCO : PySem.W.kitOne K (.ref a.CN) (.ref a.CO) = some false
  iCN : PySem.W.kitOne K (.ref a.CN) (.ref a.CN) = some true
  iVE : PySem.W.kitOne K (.ref a.CN) (.type "ValueError") = some true
  m_sorted : mg "sorted" = none
  m_set : mg "set" = none
  m_len : mg "len" = none
  m_list : mg "list" = none
  m_range : mg "range" = none
  m_int : mg "int" = none
  m_bool : mg "bool" = none
  m_isinstance : mg "isinstance" = none
  m_ValueError : mg "ValueError" = none
  FII : ∃ fd, Fun K "__init__" "Index.__init__" sII a.fII fd
  FIS : ∃ fd, Fun K "sure" "Index.sure" sIS a.fIS fd
  MIS : Meth K a.CI "sure" a.fIS
  FIA : ∃ fd, Fun K "add" "Index.add" sIA a.fIA fd
  MIA : Meth K a.CI "add" a.fIA
  FIT : ∃ fd, Fun K "take_out" "Index.take_out" sIT a.fIT fd
  MIT : Meth K a.CI "take_out" a.fIT
  FIH : ∃ fd, Fun K "having" "Index.having" sIH a.fIH fd
  MIH : Meth K a.CI "having" a.fIH
  FIW : ∃ fd, Fun K "words" "Index.words" sIW a.fIW fd
  MIW : Meth K a.CI "words" a.fIW
  FIL : ∃ fd, Fun K "all_words" "Index.all_words" sIL a.fIL fd
  MIL : Meth K a.CI "all_words" a.fIL
  FTI : ∃ fd, Fun K "__init__" "Threads.__init__" sTI a.fTI fd
  FTP : ∃ fd, Fun K "pile" "Threads.pile" sTP a.fTP fd
  MTP : Meth K a.CT "pile" a.fTP
  FTG : ∃ fd, Fun K "put_together" "Threads.put_together" sTG a.fTG fd
  MTG : Meth K a.CT "put_together" a.fTG
  FTH : ∃ fd, Fun K "hang" "Threads.hang" sTH a.fTH fd
  MTH : Meth K a.CT "hang" a.fTH
  FTS : ∃ fd, Fun K "sure" "Threads.sure" sTS a.fTS fd
  MTS : Meth K a.CT "sure" a.fTS
  FTA : ∃ fd, FunD K "add" "Threads.add" (defArgs sTA) (defBody sTA) (defScope sTA) [.str ""] [] a.fTA fd
  MTA : Meth K a.CT "add" a.fTA
  FTT : ∃ fd, Fun K "take_out" "Threads.take_out" sTT a.fTT fd
  MTT : Meth K a.CT "take_out" a.fTT
  FTN : ∃ fd, Fun K "names" "Threads.names" sTN a.fTN fd
  MTN : Meth K a.CT "names" a.fTN
  FTR : ∃ fd, Fun K "thread" "Threads.thread" sTR a.fTR fd
  MTR : Meth K a.CT "thread" a.fTR
  FTL : ∃ fd, Fun K "threads" "Threads.threads" sTL a.fTL fd
  MTL : Meth K a.CT "threads" a.fTL
  FTW : ∃ fd, Fun K "answers_to" "Threads.answers_to" sTW a.fTW fd
  MTW : Meth K a.CT "answers_to" a.fTW
  FTD : ∃ fd, Fun K "depth" "Threads.depth" sTD a.fTD fd
  MTD : Meth K a.CT "depth" a.fTD
  FLD : ∃ fd, Fun K "_law_draws" "_law_draws" sLD a.fLD fd
  gLD : mg "_law_draws" = some (.ref a.fLD)
  FLN : ∃ fd, Fun K "_law_name_by" "_law_name_by" sLN a.fLN fd
  gLN : mg "_law_name_by" = some (.ref a.fLN)
  FLP : ∃ fd, Fun K "_law_pool" "_law_pool" sLP a.fLP fd
  gLP : mg "_law_pool" = some (.ref a.fLP)
  FLC : ∃ fd, Fun K "_law_called" "_law_called" sLC a.fLC fd
  gLC : mg "_law_called" = some (.ref a.fLC)
  FLR : ∃ fd, Fun K "_law_refused" "_law_refused" sLR a.fLR fd
  gLR : mg "_law_refused" = some (.ref a.fLR)
  FLU : ∃ fd, Fun K "_law_due" "_law_due" sLU a.fLU fd
  gLU : mg "_law_due" = some (.ref a.fLU)
  FLS : ∃ fd, Fun K "_law_step" "_law_step" sLS a.fLS fd
  gLS : mg "_law_step" = some (.ref a.fLS)
end K24
/-! K24M1: what the methods of an Index do. -/
namespace K24
open PySem PySem.Spec PyProof.Rows L2

/-- v is none of the names I; one of them -/
def Out (v : V) (I : List Str) : Prop := ∀ x, v = .str x → x ∉ I
def In (v : V) (I : List Str) : Prop := ∃ x, v = .str x ∧ x ∈ I
theorem dg {H : Hp} {a : Addr} {kvs : List (Key × V)} {k : Key} {r : Option V} (e : H a = some (.dK kvs)) (h : valV kvs k = r) : DGet H a (kV k) r := h ▸ DGet.k e

/-- sure: the refusal -/
def spIS (a : Ads) : Sp := fun vs H Q E => ∃ (q : Addr) (v : V) (I : List Str), vs = [.ref q, v] ∧ IdxRd a.CI H q I ∧ NameOk v ∧ (Out v I → E (.ref a.CN) none H) ∧ (In v I → Q .non H)
/-! ### small things -/
theorem upd_over {H : Hp} {t e : Addr} {o u r : HO} : upd (upd (upd H t o) e u) t r = upd (upd H e u) t r := by
  funext b
  unfold upd
  by_cases h : b = t
  · rw [if_pos h, if_pos h]
  · rw [if_neg h, if_neg h, if_neg h]
theorem hk_ : ¬ (("rows_of" : Str) = "holders") := by decide +kernel
theorem fI_init (e1 e2 : Addr) : putF "holders" (.ref e2) (putF "rows_of" (.ref e1) []) = fI e1 e2 := by
  simp [fI, putF, hk_]
theorem str_get {l : List Str} {i : Nat} {y : V} (h : (l.map V.str)[i]? = some y) : ∃ x, l[i]? = some x ∧ y = .str x := by
  rw [List.getElem?_map] at h
  cases e : l[i]? with
  | none =>
    rw [e] at h
    cases h
  | some x =>
    rw [e] at h
    exact ⟨x, rfl, (Option.some.inj h).symm⟩
theorem mem_take_succ {l : List Str} {i : Nat} {x v : Str} (h : l[i]? = some x) : v ∈ l.take (i + 1) ↔ v ∈ l.take i ∨ v = x := by
  rw [List.take_add_one, h, Option.toList_some, List.mem_append, List.mem_singleton]
theorem not_mem_take : ∀ {l : List Str} {i : Nat} {x : Str}, l.Nodup → l[i]? = some x → x ∉ l.take i
  | [], _, _, _, h => by simp at h
  | y :: l, 0, x, _, _ => by simp
  | y :: l, i + 1, x, hn, h => by
    obtain ⟨h1, h2⟩ := List.nodup_cons.mp hn
    have h' : l[i]? = some x := by simpa using h
    have ih := not_mem_take h2 h'
    rw [List.take_succ_cons]
    intro m
    rcases List.mem_cons.mp m with e | m
    · exact h1 (by rw [← e]; exact List.mem_of_getElem? h')
    · exact ih m
theorem once_perm {x : Str} {ys : List Str} (h : ys.Perm (once [x, tR])) : ys.Perm (wl x) := by rwa [once_wl] at h
theorem gI_len (I : List Str) (w : Str) : (gI I w).length ≤ I.length := List.length_filter_le _ _
theorem small_line {n : Nat} (h : n ≤ 1000) : n < sizeLine := small1000 h
/-- the words' table while a name's words come -/
def gAdd (g : Str → List Str) (x : Str) (ys : List Str) (j : Nat) : Str → List Str := fun w => if w ∈ ys.take j then g w ++ [x] else g w
theorem gAdd_step {g : Str → List Str} {x : Str} {ys : List Str} {j : Nat} {w : Str} (hn : ys.Nodup) (h : ys[j]? = some w) (v : Str) : gAdd g x ys (j + 1) v = upg (gAdd g x ys j) w (gAdd g x ys j w ++ [x]) v := by
  have hw := not_mem_take hn h
  unfold gAdd upg
  rw [if_neg hw]
  by_cases q : v = w
  · subst q
    rw [if_pos rfl, if_pos ((mem_take_succ h).mpr (.inr rfl))]
  · rw [if_neg q]
    show _ = if v ∈ ys.take j then g v ++ [x] else g v
    by_cases m : v ∈ ys.take j
    · rw [if_pos m, if_pos ((mem_take_succ h).mpr (.inl m))]
    · rw [if_neg m, if_neg fun z => ((mem_take_succ h).mp z).elim m q]
theorem gAdd_at {g : Str → List Str} {x : Str} {ys : List Str} {j : Nat} {w : Str} (hn : ys.Nodup) (h : ys[j]? = some w) : gAdd g x ys j w = g w := if_neg (not_mem_take hn h)
/-- .. while they go -/
def gPop (g : Str → List Str) (x : Str) (ys : List Str) (j : Nat) : Str → List Str := fun w => if w ∈ ys.take j then but x (g w) else g w
theorem gPop_step {g : Str → List Str} {x : Str} {ys : List Str} {j : Nat} {w : Str} (hn : ys.Nodup) (h : ys[j]? = some w) (v : Str) : gPop g x ys (j + 1) v = upg (gPop g x ys j) w (but x (gPop g x ys j w)) v := by
  have hw := not_mem_take hn h
  unfold gPop upg
  rw [if_neg hw]
  by_cases q : v = w
  · subst q
    rw [if_pos rfl, if_pos ((mem_take_succ h).mpr (.inr rfl))]
  · rw [if_neg q]
    show _ = if v ∈ ys.take j then but x (g v) else g v
    by_cases m : v ∈ ys.take j
    · rw [if_pos m, if_pos ((mem_take_succ h).mpr (.inl m))]
    · rw [if_neg m, if_neg fun z => ((mem_take_succ h).mp z).elim m q]
theorem gPop_at {g : Str → List Str} {x : Str} {ys : List Str} {j : Nat} {w : Str} (hn : ys.Nodup) (h : ys[j]? = some w) : gPop g x ys j w = g w := if_neg (not_mem_take hn h)
section
variable {P : Program} {w : World} {K : PySem.W.Frag} {mg : Str → Option Value} {base : Heap} {a : Ads}
theorem ok_IS (T : Txt K mg a) : ∃ fd, FnOk P w K mg base (L2.CX P w) 1 a.fIS fd ["self", "name"] (spIS a) ∧ Binds K fd ["self", "name"] [] := by
  obtain ⟨fd, F⟩ := T.FIS
  refine ⟨fd, F.okX scIS (fun vs H Q E h => ?_) (fun cdv A outer s H vs Q E hr h => ?_), F.binds (ps := ["self", "name"]) fun _ _ _ _ _ _ us hl => match us, hl with | [_, _], _ => rfl⟩
  · obtain ⟨q, v, I, rfl, _⟩ := h
    rfl
  · obtain ⟨q, v, I, rfl, ⟨dx, e1, e2, f, hq, h1⟩, ok, kE, kQ⟩ := h
    have hu := hu_of hr
    refine ⟨_, pss_one (ps_if (pt_cmp (pc_dnotinN hu (pv 1) (pe_fld (pv 0) rfl))) (pss_one (ps_raise rfl (takes_of rfl rfl rfl rfl) (SkE.pmk_own1 PySem.F.excBase_ValueError T.xN T.gCN T.kN (raises_own T.bN T.tN) rfl (pe_words (by decide +kernel) (pv 1))))) pss_nil), ?_⟩
    refine ⟨_, rfl, _, rfl, q, a.CI, dx, _, _, rfl, hq, T.clI, T.nI_rows_of, fI_rows _ _, ?_⟩
    rcases id ok with rfl | ⟨i, rfl, _⟩ | ⟨x, rfl, hx⟩
    · exact .inr ⟨e1, _, rfl, rfl, Rd.of h1, _, rfl, iteT ⟨_, rfl, ok, fun _ => kE fun _ z => nomatch z⟩⟩
    · exact .inl ⟨e1, none, rfl, dg (k := Sum.inl i) h1 (valV_num f i I), _, rfl, iteT ⟨_, rfl, ok, fun _ => kE fun _ z => nomatch z⟩⟩
    · by_cases hi : x ∈ I
      · exact .inl ⟨e1, some (f x), rfl, dg (k := Sum.inr x) h1 (valV_in hi), _, rfl, iteF (kQ ⟨x, rfl, hi⟩)⟩
      · exact .inl ⟨e1, none, rfl, dg (k := Sum.inr x) h1 (valV_out hi), _, rfl, iteT ⟨_, rfl, ok, fun _ => kE fun y z => by cases z; exact hi⟩⟩

/-- Index(): no names -/
def spII (a : Ads) : Sp := fun vs H Q _ => ∃ (p dx : Addr), vs = [.ref p] ∧ H p = some (.ins a.CI dx []) ∧ ∀ (H' : Hp) (F : Addr → Prop), IdxAt a.CI H' p F [] → Keeps (fun b => b = p) H H' → Grow (fun b => b = p) H F → Q .non H'
theorem ok_II (T : Txt K mg a) : ∃ fd, FnOk P w K mg base CX0 1 a.fII fd ["self"] (spII a) ∧ Binds K fd ["self"] [] := by
  obtain ⟨fd, F⟩ := T.FII
  refine ⟨fd, F.ok scII (fun vs H Q E h => ?_) (fun cdv A outer s H vs Q E hr h => ?_), F.binds (ps := ["self"]) fun _ _ _ _ _ _ us hl => match us, hl with | [_], _ => rfl⟩
  · obtain ⟨p, dx, rfl, _⟩ := h
    rfl
  · obtain ⟨p, dx, rfl, hp, k⟩ := h
    refine ⟨_, pss_cons (ps_fld (pv 0) pe_dnewK rfl) (pss_one (ps_fld (pv 0) pe_dnewK rfl)), ?_⟩
    intro e1 n1
    have pe1 : p ≠ e1 := ne_of_none hp n1
    refine ⟨_, rfl, p, a.CI, dx, [], rfl, by rw [upd_ne pe1]; exact hp, T.clI, T.nI_rows_of, (by show 0 < 1000; decide), ?_⟩
    intro e2 n2
    obtain ⟨e2p, n2⟩ := upd_none n2
    obtain ⟨e21, n2⟩ := upd_none n2
    refine ⟨_, rfl, p, a.CI, dx, _, rfl, by rw [upd_ne e2p.symm, upd_same], T.clI, T.nI_holders, (by show 1 < 1000; decide), ?_⟩
    refine k _ (fun b => b = p ∨ b = e1 ∨ b = e2 ∨ False) ⟨dx, e1, e2, fun _ => 0, fun _ => [], fun b => b = e2, [], fun _ => 0, ?_⟩ ?_ ?_
    · exact
        { ob := by rw [upd_same, fI_init]
          nd := List.nodup_nil
          rows := by rw [upd_ne pe1.symm, upd_ne e21.symm, upd_ne pe1.symm, upd_same]; rfl
          row := fun x hx => by cases hx
          hold :=
            { nd := List.nodup_nil
              le := Nat.zero_le _
              iff := fun w => by simp [gI]
              at_ := by rw [upd_ne e2p, upd_same]; rfl
              row := fun w hw => by cases hw
              ne := fun w hw => by cases hw
              inj := fun w hw => by cases hw
              fp := fun b => by simp }
          ne1 := fun z => e21 z.symm
          fp := fun b => by simp }
    · refine Keeps.upd (Keeps.upd (Keeps.upd (Keeps.upd (Keeps.refl _ _) (.inr n1)) (.inl rfl)) (.inr n2)) (.inl rfl)
    · rintro b (z | rfl | rfl | z)
      · exact .inl z
      · exact .inr n1
      · exact .inr n2
      · exact z.elim

/-- add: a name comes -/
def spIA (a : Ads) (K : PySem.W.Frag) : Sp := fun vs H Q E => ∃ (q : Addr) (x : Str) (u : V) (I : List Str), vs = [.ref q, .str x, u] ∧ IdxRd a.CI H q I ∧ x.length ≤ 100 ∧ (x ∈ I → E (.ref a.CN) none H) ∧
  (x ∉ I → ∃ (F : Addr → Prop) (l : Addr), u = .ref l ∧ SqL K H l ([x, tR].map V.str) ∧ IdxAt a.CI H q F I ∧ I.length ≤ 100 ∧ ∀ (H' : Hp) (F' : Addr → Prop), IdxAt a.CI H' q F' (I ++ [x]) → Keeps F H H' → Grow F H F' → Q .non H')
theorem ok_IA (T : Txt K mg a) : ∃ fd, FnOk P w K mg base (L2.CX P w) 1 a.fIA fd ["self", "name", "words"] (spIA a K) ∧ Binds K fd ["self", "name", "words"] [] := by
  obtain ⟨fd, F⟩ := T.FIA
  refine ⟨fd, F.okX scIA (fun vs H Q E h => ?_) (fun cdv A outer s H vs Q E hr h => ?_), F.binds (ps := ["self", "name", "words"]) fun _ _ _ _ _ _ us hl => match us, hl with | [_, _, _], _ => rfl⟩
  · obtain ⟨q, x, u, I, rfl, _⟩ := h
    rfl
  · obtain ⟨q, x, u, I, rfl, ⟨dx, e1, e2, f, hq, h1⟩, hx, kE, kQ⟩ := h
    have hu := hu_of hr
    refine ⟨_, pss_cons (ps_if (pt_cmp (pc_din hu (pv 1) (pe_fld (pv 0) rfl))) (pss_one (ps_raise rfl (takes_of rfl rfl rfl rfl) (SkE.pmk_own1 PySem.F.excBase_ValueError T.xN T.gCN T.kN (raises_own T.bN T.tN) rfl (pe_words (by decide +kernel) (pv 1))))) pss_nil)
      (PSs.nox (pss_cons (ps_dput hu (pe_fld (pv 0) rfl) (pv 1) (pe_callB (cr_sortQ rfl) (by rfl) T.m_sorted (by decide +kernel) (pa_cons (pe_callTy (cr_setS rfl) (by rfl) T.m_set (by decide +kernel) (pa_cons (pv 2) pa_nil)) pa_nil)) rfl)
      (pss_one (ps_for PassesOwn.never rfl (pi_list (pe_dget hu (pe_fld (pv 0) rfl) (pv 1) (fun _ _ => rfl))) (pg_name (i := 3) scIA.nd rfl (Or.inl rfl))
        (pss_one (ps_dput hu (pe_dsetd (pe_fld (pv 0) rfl) (pv 3) pe_dnewK ⟨rfl, rfl, rfl, rfl⟩) (pv 1) pe_bl rfl)))))), ?_⟩
    refine ⟨_, rfl, _, rfl, q, a.CI, dx, _, _, rfl, hq, T.clI, T.nI_rows_of, fI_rows _ _, e1, (if x ∈ I then some (f x) else none), rfl, dg (k := Sum.inr x) h1 (valV_tb f x I), _, rfl, ?_⟩
    by_cases hi : x ∈ I
    · rw [if_pos hi]
      exact iteT ⟨_, rfl, .inr (.inr ⟨x, rfl, hx⟩), fun _ => kE hi⟩
    · rw [if_neg hi]
      refine iteF ?_
      obtain ⟨F0, l, rfl, hl, ⟨dx', e1', e2', R, Y, F2, ks, D, d⟩, hI, k⟩ := kQ hi
      clear hq h1 kE kQ
      -- self.rows_of[name] = sorted(set(words))
      refine ⟨_, rfl, l, _, rfl, hl, (by show 2 < 64; decide), fun p1 n1 => ?_⟩
      refine ⟨p1, _, rfl, upd_same, (by rw [once_wl]; exact Nat.lt_of_le_of_lt (wl_len x) (by decide)), fun ys p2 hp hs n2 => ?_⟩
      have hp := once_perm hp
      have d1 := d.same (same_upd (o := QS P w p1 (once [x, tR])) n1)
      have d2 := d1.putRow hi n2 hp hs
      have dq := d1.ob
      have dr := d1.rows
      have nq : q ≠ p2 := ne_of_none dq n2
      have nr : e1' ≠ p2 := ne_of_none dr n2
      refine ⟨_, rfl, q, a.CI, dx', _, _, rfl, by rw [upd_ne nq]; exact dq, T.clI, T.nI_rows_of, fI_rows _ _, _, rfl, e1', _, rfl, DPut.k (k := Sum.inr x) (by rw [upd_ne nr]; exact dr) (small_line (by rw [tb_len]; omega)), ?_⟩
      have mx : x ∈ I ++ [x] := List.mem_append_right _ (List.mem_singleton.mpr rfl)
      have hv : valV (tb (fun y => V.ref (if y = x then p2 else R y)) (I ++ [x])) (Sum.inr x : Key) = some (.ref p2) := by rw [valV_in mx, if_pos rfl]
      have hrow := (d2.row x mx).1
      rw [if_pos rfl, if_pos rfl] at hrow
      have hn : ys.Nodup := hp.nodup_iff.mpr (wl_nodup x)
      have k0 : Keeps F0 H (upd (upd (upd H p1 (QS P w p1 (once [x, tR]))) p2 (.lst (ys.map V.str))) e1' (.dK (putK (tb (fun x => .ref (R x)) I) (Sum.inr x : Key) (.ref p2)))) := by
        obtain ⟨_, n2'⟩ := upd_none n2
        exact ((((Keeps.refl F0 H).upd (.inr n1)).upd (.inr n2')).upd (.inl ((d.fp e1').mpr (.inr (.inl rfl)))))
      have g0 : Grow F0 H (fun b => F0 b ∨ b = p2) := fun b z => z.imp id fun e => by rw [e]; exact (upd_none n2).2
      -- for word in self.rows_of[name]
      refine ⟨_, rfl, q, a.CI, dx', _, _, rfl, d2.ob, T.clI, T.nI_rows_of, fI_rows _ _, _, rfl, e1', _, rfl, dg (k := Sum.inr x) d2.rows hv, p2, rfl, ⟨_, SqL.of hrow⟩, ?_⟩
      refine for_list (K := K) (a := p2) (xs := ys.map V.str) (fun j σ Hc => ∃ (v : Option V) (F' : Addr → Prop) (F2' : Addr → Prop) (ks' : List Str) (D' : Str → Addr), σ = [some (.ref q), some (.str x), some (.ref l), v] ∧
        IdxD a.CI Hc q F' (I ++ [x]) (gAdd (gI I) x ys j) (I.length + 1 + j) dx' e1' e2' (fun y => if y = x then p2 else R y) (fun y => if y = x then ys else Y y) F2' ks' D' ∧ Keeps F0 H Hc ∧ Grow F0 H F')
        ⟨none, _, F2, ks, D, rfl, d2.congr fun v => by simp [gAdd], k0, g0⟩ (fun j σ Hc _ ⟨_, _, _, _, _, _, dd, _⟩ => ?_) ?_ ?_
      · have r := (dd.row x mx).1
        rw [if_pos rfl, if_pos rfl] at r
        exact SqL.of r
      · rintro j y σ Hc hj ⟨v, F', F2', ks', D', rfl, dd, kk, gg⟩
        obtain ⟨z, hz, rfl⟩ := str_get hj
        have hjl : j < ys.length := (List.getElem?_eq_some_iff.mp hz).1
        have hyl : ys.length ≤ 2 := by rw [hp.length_eq]; exact wl_len x
        have gz := gAdd_at (g := gI I) (x := x) hn hz
        have xz : x ∉ gAdd (gI I) x ys j z := by
          rw [gz]
          exact fun m => hi (mem_gI.mp m).1
        have gl : (gAdd (gI I) x ys j z).length ≤ 100 := by rw [gz]; exact Nat.le_trans (gI_len I z) hI
        have kl := dd.hold.le
        -- self.holders.setdefault(word, {})[name] = True
        refine ⟨_, rfl, q, a.CI, dx', _, _, rfl, dd.ob, T.clI, T.nI_holders, fI_hold _ _, e2', rfl, .inl ⟨_, Rd.of dd.hold.at_⟩, _, rfl, fun t ht => ?_⟩
        have de := dd.same (same_upd (o := .dK []) ht)
        refine ⟨_, Sum.inr z, de.hold.at_, rfl, small_line (by rw [tb_len]; omega), fun v hv => ?_, fun hv => ?_⟩
        · have hw : z ∈ ks' := by
            by_cases q : z ∈ ks'
            · exact q
            · rw [valV_out q] at hv
              cases hv
          rw [valV_in hw] at hv
          cases hv
          refine ⟨_, rfl, D' z, _, rfl, DPut.k (k := Sum.inr x) (de.hold.row z hw) (small_line (by rw [tb_len]; omega)), ?_⟩
          have d3 := de.addOld hw xz
          refine ⟨_, F', F2', ks', D', rfl, ?_, (kk.upd ?_).upd ?_, gg⟩
          · exact { d3.congr (gAdd_step hn hz) with hold := (d3.congr (gAdd_step hn hz)).hold.mono (Nat.le_succ_of_le kl) }
          · exact (kk.none t ht).symm.imp id id
          · exact gg _ ((dd.fp _).mpr (.inr (.inr (.inl ((dd.hold.fp _).mpr (.inr ⟨z, hw, rfl⟩))))))
        · have hw : z ∉ ks' := fun q => by
            rw [valV_in q] at hv
            cases hv
          have te : t ≠ e2' := fun q => by
            have r := dd.hold.at_
            rw [← q, ht] at r
            cases r
          refine ⟨_, rfl, t, _, rfl, DPut.k (k := Sum.inr x) (by rw [upd_ne te, upd_same]) (by decide), ?_⟩
          rw [upd_over]
          have d3 := dd.addNew (x := x) hw ht
          refine ⟨_, _, _, _, _, rfl, d3.congr (gAdd_step hn hz), (kk.upd ?_).upd ?_, fun b hb => hb.elim (fun z => gg b z) fun z => ?_⟩
          · exact gg _ ((dd.fp _).mpr (.inr (.inr (.inl ((dd.hold.fp _).mpr (.inl rfl))))))
          · exact (kk.none t ht).symm.imp id id
          · rw [z]
            exact (kk.none t ht).symm.imp id id
      · rintro σ Hc ⟨v, F', F2', ks', D', rfl, dd, kk, gg⟩
        rw [List.length_map] at dd
        have fin : ∀ v, gI (I ++ [x]) v = gAdd (gI I) x ys ys.length v := fun v => by
          unfold gAdd
          rw [gI_snoc, List.take_length]
          by_cases m : v ∈ ys
          · rw [if_pos m, if_pos (hp.mem_iff.mp m)]
          · rw [if_neg m, if_neg fun z => m (hp.mem_iff.mpr z)]
        have dz := dd.congr fin
        exact k _ F' ⟨dx', e1', e2', _, _, F2', ks', D', { dz with hold := dz.hold.mono (holdLen dz.hold) }⟩ kk gg

/-- take_out: a name goes -/
def spIT (a : Ads) : Sp := fun vs H Q E => ∃ (q : Addr) (v : V) (I : List Str), vs = [.ref q, v] ∧ IdxRd a.CI H q I ∧ NameOk v ∧ (Out v I → E (.ref a.CN) none H) ∧
  (In v I → ∃ (x : Str) (F : Addr → Prop), v = .str x ∧ x ∈ I ∧ IdxAt a.CI H q F I ∧ I.length ≤ 100 ∧ ∀ (H' : Hp) (F' : Addr → Prop), IdxAt a.CI H' q F' (but x I) → Keeps F H H' → Grow F H F' → Q .non H')
theorem ok_IT (T : Txt K mg a) : ∃ fd, FnOk P w K mg base (L2.CX P w) 2 a.fIT fd ["self", "name"] (spIT a) ∧ Binds K fd ["self", "name"] [] := by
  obtain ⟨fd, F⟩ := T.FIT
  obtain ⟨fdS, GS, bS⟩ := ok_IS (P := P) (w := w) (base := base) T
  refine ⟨fd, F.okX scIT (fun vs H Q E h => ?_) (fun cdv A outer s H vs Q E hr h => ?_), F.binds (ps := ["self", "name"]) fun _ _ _ _ _ _ us hl => match us, hl with | [_, _], _ => rfl⟩
  · obtain ⟨q, v, I, rfl, _⟩ := h
    rfl
  · obtain ⟨q, v, I, rfl, rd, ok, kE, kQ⟩ := h
    have hu := hu_of hr
    refine ⟨_, pss_cons (ps_expr (pe_meth (pv 0) T.clI T.MIS GS hr bS .nil (passes_call (takes_of rfl rfl rfl rfl) (fun _ _ _ _ h => h)) (pa_cons (pv 1) pa_nil)))
      (PSs.nox (pss_one (ps_for PassesOwn.never rfl (pi_list (pe_dpop1 (pe_fld (pv 0) rfl) (pv 1) ⟨rfl, rfl, rfl, rfl⟩)) (pg_name (i := 2) scIT.nd rfl (Or.inl rfl))
        (pss_cons (ps_expr (pe_dpop1 (pe_dget hu (pe_fld (pv 0) rfl) (pv 2) (fun _ _ => rfl)) (pv 1) ⟨rfl, rfl, rfl, rfl⟩))
        (pss_one (ps_if (pt_cmpR op_eq (pe_callB call_lenD (by rfl) T.m_len PySem.boot_len (pa_cons (pe_dget hu (pe_fld (pv 0) rfl) (pv 2) (fun _ _ => rfl)) pa_nil)) pe_int (nomark _))
          (pss_one (ps_expr (pe_dpop1 (pe_fld (pv 0) rfl) (pv 2) ⟨rfl, rfl, rfl, rfl⟩))) pss_nil)))))), ?_⟩
    obtain ⟨dx0, e10, e20, f0, hq0, h10⟩ := id rd
    refine ⟨_, rfl, q, dx0, _, rfl, hq0, fI_no _ _ (by decide +kernel) (by decide +kernel), _, rfl, q, v, I, rfl, rd, ok, kE, fun hin => ?_⟩
    obtain ⟨x, F0, rfl, hi, ⟨dx, e1, e2, R, Y, F2, ks, D, d⟩, hI, k⟩ := kQ hin
    have hp := (d.row x hi).2.1
    have hn : (Y x).Nodup := hp.nodup_iff.mpr (wl_nodup x)
    have dp := d.popRow (x := x)
    have rx : R x ≠ e1 := d.rne hi d.rows
    have hrow : upd H e1 (.dK (dropK (tb (fun x => .ref (R x)) I) (Sum.inr x : Key))) (R x) = some (.lst ((Y x).map V.str)) := by
      rw [upd_ne rx]
      exact (d.row x hi).1
    have k0 : Keeps F0 H (upd H e1 (.dK (dropK (tb (fun x => .ref (R x)) I) (Sum.inr x : Key)))) := (Keeps.refl F0 H).upd (.inl ((d.fp e1).mpr (.inr (.inl rfl))))
    have g0 : Grow F0 H (fun b => b = q ∨ b = e1 ∨ F2 b ∨ ∃ y ∈ but x I, b = R y) := fun b hb => .inl ((d.fp b).mpr (hb.imp id fun z => z.imp id fun z => z.imp id fun ⟨y, hy, e⟩ => ⟨y, (mem_but.mp hy).1, e⟩))
    -- for word in self.rows_of.pop(name)
    refine ⟨_, rfl, q, a.CI, dx, _, _, rfl, d.ob, T.clI, T.nI_rows_of, fI_rows _ _, e1, rfl, .inl ⟨_, Rd.of d.rows⟩, _, rfl, _, Sum.inr x, _, d.rows, rfl, valV_in hi, R x, rfl, ⟨_, SqL.of hrow⟩, ?_⟩
    refine for_list (K := K) (a := R x) (xs := (Y x).map V.str) (fun j σ Hc => ∃ (v : Option V) (F' : Addr → Prop) (F2' : Addr → Prop) (ks' : List Str) (D' : Str → Addr), σ = [some (.ref q), some (.str x), v] ∧
      IdxD a.CI Hc q F' (but x I) (gPop (gI I) x (Y x) j) (I.length + 1) dx e1 e2 R Y F2' ks' D' ∧ Hc (R x) = some (.lst ((Y x).map V.str)) ∧ Keeps F0 H Hc ∧ Grow F0 H F')
      ⟨none, _, F2, ks, D, rfl, dp.congr fun v => by simp [gPop], hrow, k0, g0⟩ (fun j σ Hc _ ⟨_, _, _, _, _, _, _, r, _⟩ => SqL.of r) ?_ ?_
    · rintro j y σ Hc hj ⟨v, F', F2', ks', D', rfl, dd, rr, kk, gg⟩
      obtain ⟨z, hz, rfl⟩ := str_get hj
      have gz := gPop_at (g := gI I) (x := x) hn hz
      have xz : x ∈ gPop (gI I) x (Y x) j z := by
        rw [gz]
        exact mem_gI.mpr ⟨hi, hp.mem_iff.mp (List.mem_of_getElem? hz)⟩
      have hw : z ∈ ks' := (dd.hold.iff z).mpr (List.ne_nil_of_mem xz)
      have fd : F' (D' z) := (dd.fp _).mpr (.inr (.inr (.inl ((dd.hold.fp _).mpr (.inr ⟨z, hw, rfl⟩)))))
      have fe : F' e2 := (dd.fp _).mpr (.inr (.inr (.inl ((dd.hold.fp _).mpr (.inl rfl)))))
      have de2 : D' z ≠ e2 := dd.hold.ne z hw
      have rd' : R x ≠ D' z := ne_of rr (dd.hold.row z hw) (by intro z; cases z)
      have re' : R x ≠ e2 := ne_of rr dd.hold.at_ (by intro z; cases z)
      -- self.holders[word].pop(name)
      refine ⟨_, rfl, q, a.CI, dx, _, _, rfl, dd.ob, T.clI, T.nI_holders, fI_hold _ _, _, rfl, e2, _, rfl, dg (k := Sum.inr z) dd.hold.at_ (valV_in hw), D' z, rfl, .inl ⟨_, Rd.of (dd.hold.row z hw)⟩, _, rfl, _, Sum.inr x, _, dd.hold.row z hw, rfl, valV_in xz, ?_⟩
      rw [dropK_tb]
      have qd : q ≠ D' z := dd.qne (dd.hold.row z hw)
      have at2 : upd Hc (D' z) (.dK (tb (fun _ => .bl true) (but x (gPop (gI I) x (Y x) j z)))) e2 = some (.dK (tb (fun w => .ref (D' w)) ks')) := by
        rw [upd_ne de2.symm]
        exact dd.hold.at_
      -- if len(self.holders[word]) == 0: self.holders.pop(word)
      refine ⟨_, rfl, q, a.CI, dx, _, _, rfl, by rw [upd_ne qd]; exact dd.ob, T.clI, T.nI_holders, fI_hold _ _, _, rfl, e2, _, rfl, dg (k := Sum.inr z) at2 (valV_in hw), D' z, _, rfl, upd_same, rfl, _, rfl, ?_⟩
      rw [tb_len]
      by_cases hl : but x (gPop (gI I) x (Y x) j z) = []
      · have e0 : decide (V.int (((but x (gPop (gI I) x (Y x) j z)).length : Nat) : Int) = V.int 0) = true := by
          rw [hl]
          exact decide_eq_true rfl
        rw [e0]
        refine iteT ?_
        refine ⟨_, rfl, q, a.CI, dx, _, _, rfl, by rw [upd_ne qd]; exact dd.ob, T.clI, T.nI_holders, fI_hold _ _, e2, rfl, .inl ⟨_, Rd.of at2⟩, _, rfl, _, Sum.inr z, _, at2, rfl, valV_in hw, ?_⟩
        have d3 := dd.popLast hw hl (.dK (tb (fun _ => .bl true) (but x (gPop (gI I) x (Y x) j z))))
        refine ⟨_, _, _, _, _, rfl, d3.congr (gPop_step hn hz), by rw [upd_ne re', upd_ne rd']; exact rr, (kk.upd (gg _ fd)).upd (gg _ fe), fun b hb => gg b ((dd.fp b).mpr ?_)⟩
        exact hb.imp id fun z => z.imp id fun z => z.imp (fun z => (dd.hold.fp b).mpr (z.imp id fun ⟨u, hu, e⟩ => ⟨u, (mem_but.mp hu).1, e⟩)) id
      · have e0 : decide (V.int (((but x (gPop (gI I) x (Y x) j z)).length : Nat) : Int) = V.int 0) = false := by
          refine decide_eq_false fun zz => hl ?_
          have z1 : (((but x (gPop (gI I) x (Y x) j z)).length : Nat) : Int) = 0 := V.int.inj zz
          exact List.length_eq_zero_iff.mp (by omega)
        rw [e0]
        refine iteF ?_
        have d3 := dd.popOne hw hl
        exact ⟨_, F', F2', ks', D', rfl, d3.congr (gPop_step hn hz), by rw [upd_ne rd']; exact rr, kk.upd (gg _ fd), gg⟩
    · rintro σ Hc ⟨v, F', F2', ks', D', rfl, dd, rr, kk, gg⟩
      rw [List.length_map] at dd
      have fin : ∀ v, gI (but x I) v = gPop (gI I) x (Y x) (Y x).length v := fun v => by
        unfold gPop
        rw [gI_but, List.take_length]
        by_cases m : v ∈ Y x
        · rw [if_pos m, if_pos (hp.mem_iff.mp m)]
        · rw [if_neg m, if_neg fun z => m (hp.mem_iff.mpr z)]
      have dz := dd.congr fin
      exact k _ F' ⟨dx, e1, e2, _, _, F2', ks', D', { dz with hold := dz.hold.mono (holdLen dz.hold) }⟩ kk gg

/-- having: the names that have a word -/
def spIH (a : Ads) : Sp := fun vs H Q _ => ∃ (q : Addr) (z : Str) (F : Addr → Prop) (I : List Str), vs = [.ref q, .str z] ∧ IdxAt a.CI H q F I ∧ I.length ≤ 60 ∧
  ∀ (H' : Hp) (l : Addr) (ys : List Str), Same H H' → H l = none → H' l = some (.lst (ys.map V.str)) → ys.Perm (gI I z) → sortedS ys = true → Q (.ref l) H'
theorem ok_IH (T : Txt K mg a) : ∃ fd, FnOk P w K mg base CX0 1 a.fIH fd ["self", "word"] (spIH a) ∧ Binds K fd ["self", "word"] [] := by
  obtain ⟨fd, F⟩ := T.FIH
  refine ⟨fd, F.ok scIH (fun vs H Q E h => ?_) (fun cdv A outer s H vs Q E hr h => ?_), F.binds (ps := ["self", "word"]) fun _ _ _ _ _ _ us hl => match us, hl with | [_, _], _ => rfl⟩
  · obtain ⟨q, z, F0, I, rfl, _⟩ := h
    rfl
  · obtain ⟨q, z, F0, I, rfl, ⟨dx, e1, e2, R, Y, F2, ks, D, d⟩, hI, k⟩ := h
    have hu := hu_of hr
    refine ⟨_, pss_one (ps_ret (pe_callB (call_sortedD rfl) (by rfl) T.m_sorted (by decide +kernel) (pa_cons (pe_dget2 hu (pe_fld (pv 0) rfl) (pv 1) pe_dnewK ⟨rfl, rfl, rfl, rfl⟩) pa_nil))), ?_⟩
    refine ⟨_, rfl, q, a.CI, dx, _, _, rfl, d.ob, T.clI, T.nI_holders, fI_hold _ _, e2, rfl, .inl ⟨_, Rd.of d.hold.at_⟩, _, rfl, fun t ht => ?_⟩
    have d1 := d.same (same_upd (o := .dK []) ht)
    by_cases hz : z ∈ ks
    · refine ⟨some (.ref (D z)), dg (k := Sum.inr z) d1.hold.at_ (valV_in hz), D z, _, gI I z, rfl, Rd.of (d1.hold.row z hz), tb_keys _ _, Nat.lt_of_le_of_lt (gI_len I z) (by omega), fun ys l hp hs hl => ?_⟩
      exact k _ l ys (same_upd2 (same_upd ht) hl) (upd_none hl).2 upd_same hp hs
    · have g0 : gI I z = [] := by
        cases q : gI I z with
        | nil => rfl
        | cons x l => exact absurd ((d.hold.iff z).mpr (by rw [q]; exact List.cons_ne_nil _ _)) hz
      refine ⟨none, dg (k := Sum.inr z) d1.hold.at_ (valV_out hz), t, [], [], rfl, Rd.of upd_same, rfl, (by decide), fun ys l hp hs hl => ?_⟩
      exact k _ l ys (same_upd2 (same_upd ht) hl) (upd_none hl).2 upd_same (by rw [g0]; exact hp) hs
/-- words: a name's words -/
def spIW (a : Ads) : Sp := fun vs H Q E => ∃ (q : Addr) (v : V) (I : List Str), vs = [.ref q, v] ∧ IdxRd a.CI H q I ∧ NameOk v ∧ (Out v I → E (.ref a.CN) none H) ∧
  (In v I → ∃ (x : Str) (F : Addr → Prop), v = .str x ∧ x ∈ I ∧ IdxAt a.CI H q F I ∧ ∀ (H' : Hp) (l : Addr) (ys : List Str), Same H H' → H l = none → H' l = some (.lst (ys.map V.str)) → ys.Perm (wl x) → sortedS ys = true → Q (.ref l) H')
theorem ok_IW (T : Txt K mg a) : ∃ fd, FnOk P w K mg base (L2.CX P w) 2 a.fIW fd ["self", "name"] (spIW a) ∧ Binds K fd ["self", "name"] [] := by
  obtain ⟨fd, F⟩ := T.FIW
  obtain ⟨fdS, GS, bS⟩ := ok_IS (P := P) (w := w) (base := base) T
  refine ⟨fd, F.okX scIW (fun vs H Q E h => ?_) (fun cdv A outer s H vs Q E hr h => ?_), F.binds (ps := ["self", "name"]) fun _ _ _ _ _ _ us hl => match us, hl with | [_, _], _ => rfl⟩
  · obtain ⟨q, v, I, rfl, _⟩ := h
    rfl
  · obtain ⟨q, v, I, rfl, rd, ok, kE, kQ⟩ := h
    have hu := hu_of hr
    refine ⟨_, pss_cons (ps_expr (pe_meth (pv 0) T.clI T.MIS GS hr bS .nil (passes_call (takes_of rfl rfl rfl rfl) (fun _ _ _ _ h => h)) (pa_cons (pv 1) pa_nil)))
      (pss_one (ps_ret (pe_callTy call_list_of (by rfl) T.m_list (by decide +kernel) (pa_cons (pe_dget hu (pe_fld (pv 0) rfl) (pv 1) (fun _ _ => rfl)) pa_nil)))), ?_⟩
    obtain ⟨dx0, e10, e20, f0, hq0, h10⟩ := id rd
    refine ⟨_, rfl, q, dx0, _, rfl, hq0, fI_no _ _ (by decide +kernel) (by decide +kernel), _, rfl, q, v, I, rfl, rd, ok, kE, fun hin => ?_⟩
    obtain ⟨x, F0, rfl, hi, ⟨dx, e1, e2, R, Y, F2, ks, D, d⟩, k⟩ := kQ hin
    obtain ⟨r1, r2, r3⟩ := d.row x hi
    refine ⟨_, rfl, q, a.CI, dx, _, _, rfl, d.ob, T.clI, T.nI_rows_of, fI_rows _ _, _, rfl, e1, _, rfl, dg (k := Sum.inr x) d.rows (valV_in hi), R x, _, rfl, .inl (SqL.of r1), fun l hl => ?_⟩
    exact k _ l (Y x) (same_upd hl) hl upd_same r2 r3
/-- all_words: none but those of the names there -/
def spIL (a : Ads) : Sp := fun vs H Q _ => ∃ (q : Addr) (F : Addr → Prop) (I : List Str), vs = [.ref q] ∧ IdxAt a.CI H q F I ∧ I.length ≤ 60 ∧
  ∀ (H' : Hp) (l : Addr) (ys : List Str), Same H H' → H l = none → H' l = some (.lst (ys.map V.str)) → (∀ z ∈ ys, z = tR ∨ z ∈ I) → Q (.ref l) H'
theorem ok_IL (T : Txt K mg a) : ∃ fd, FnOk P w K mg base CX0 1 a.fIL fd ["self"] (spIL a) ∧ Binds K fd ["self"] [] := by
  obtain ⟨fd, F⟩ := T.FIL
  refine ⟨fd, F.ok scIL (fun vs H Q E h => ?_) (fun cdv A outer s H vs Q E hr h => ?_), F.binds (ps := ["self"]) fun _ _ _ _ _ _ us hl => match us, hl with | [_], _ => rfl⟩
  · obtain ⟨q, F0, I, rfl, _⟩ := h
    rfl
  · obtain ⟨q, F0, I, rfl, ⟨dx, e1, e2, R, Y, F2, ks, D, d⟩, hI, k⟩ := h
    refine ⟨_, pss_one (ps_ret (pe_callB (call_sortedD rfl) (by rfl) T.m_sorted (by decide +kernel) (pa_cons (pe_fld (pv 0) rfl) pa_nil))), ?_⟩
    have hk := holdLen d.hold
    refine ⟨_, rfl, q, a.CI, dx, _, _, rfl, d.ob, T.clI, T.nI_holders, fI_hold _ _, e2, _, ks, rfl, Rd.of d.hold.at_, tb_keys _ _, by omega, fun ys l hp hs hl => ?_⟩
    refine k _ l ys (same_upd hl) hl upd_same fun z hz => ?_
    have hg := (d.hold.iff z).mp (hp.mem_iff.mp hz)
    cases q : gI I z with
    | nil => exact absurd q hg
    | cons x t =>
      obtain ⟨h1, h2⟩ := mem_gI.mp (show x ∈ gI I z by rw [q]; exact List.mem_cons_self)
      rcases mem_wl.mp h2 with e | e
      · exact .inr (e ▸ h1)
      · exact .inl e
end
end K24
/-! K24M2: what the methods of Threads do: made, asked. -/
namespace K24
open PySem PySem.Spec PyProof.Rows L2
theorem no_meth {m : Str} (d1 d2 d3 d4 : Addr) (n : Int) (h : (decide (m = "goes_to") || decide (m = "pile_of") || decide (m = "piles") || decide (m = "comes_from") || decide (m = "made")) = false) : (fT d1 d2 d3 d4 n).lookup m = none := by
  simp only [Bool.or_eq_false_iff, decide_eq_false_iff_not] at h
  exact fT_no _ _ _ _ _ h.1.1.1.1 h.1.1.1.2 h.1.1.2 h.1.2 h.2
theorem ThrOne.rd {C p : Addr} {H : Hp} {T : List Str} {x : Str} (h : ThrOne C H p T x) : ThrRd C H p T := by
  obtain ⟨dx, d1, d2, d3, d4, n, f, k2, k3, m, l, ys, h1, h2, _⟩ := h
  exact ⟨dx, d1, d2, d3, d4, n, f, h1, h2⟩
theorem ThrOne.same {C p : Addr} {H H' : Hp} {T : List Str} {x : Str} (h : ThrOne C H p T x) (k : Same H H') : ThrOne C H' p T x := by
  obtain ⟨dx, d1, d2, d3, d4, n, f, k2, k3, m, l, ys, h1, h2, h3, h4, h5, h6, h7, h8⟩ := h
  exact ⟨dx, d1, d2, d3, d4, n, f, k2, k3, m, l, ys, k _ _ h1, k _ _ h2, k _ _ h3, h4, k _ _ h5, h6, k _ _ h7, h8⟩

/-- Threads(): no names -/
def spTI (a : Ads) : Sp := fun vs H Q _ => ∃ (p dx : Addr), vs = [.ref p] ∧ H p = some (.ins a.CT dx []) ∧ ∀ (H' : Hp) (F : Addr → Prop), ThrAt a.CT H' p F [] → Keeps (fun b => b = p) H H' → Grow (fun b => b = p) H F → Q .non H'
/-- sure: the refusal -/
def spTS (a : Ads) : Sp := fun vs H Q E => ∃ (p : Addr) (v : V) (T : List Str), vs = [.ref p, v] ∧ ThrRd a.CT H p T ∧ NameOk v ∧ (Out v T → E (.ref a.CN) none H) ∧ (In v T → Q .non H)
/-- names -/
def spTN (a : Ads) : Sp := fun vs H Q _ => ∃ (p : Addr) (T : List Str), vs = [.ref p] ∧ ThrRd a.CT H p T ∧ T.length < 64 ∧
  ∀ (H' : Hp) (l : Addr) (ys : List Str), Same H H' → H l = none → H' l = some (.lst (ys.map V.str)) → ys.Perm T → sortedS ys = true → Q (.ref l) H'
/-- answers_to a name that none answers -/
def spTW (a : Ads) : Sp := fun vs H Q _ => ∃ (p : Addr) (z : Str) (F : Addr → Prop) (T : List Str), vs = [.ref p, .str z] ∧ ThrAt a.CT H p F T ∧ z ≠ "" ∧ ∀ (H' : Hp) (l : Addr), Same H H' → H l = none → H' l = some (.lst []) → Q (.ref l) H'
/-- depth -/
def spTD (a : Ads) : Sp := fun vs H Q E => ∃ (p : Addr) (v : V) (T : List Str), vs = [.ref p, v] ∧ ThrRd a.CT H p T ∧ NameOk v ∧ (Out v T → E (.ref a.CN) none H) ∧
  (In v T → (∃ (x : Str) (F : Addr → Prop), v = .str x ∧ x ∈ T ∧ ThrAt a.CT H p F T ∧ ("" : Str) ∉ T) ∧ ∀ H' : Hp, Same H H' → Q (.int 0) H')
section
variable {P : Program} {w : World} {K : PySem.W.Frag} {mg : Str → Option Value} {base : Heap} {a : Ads}
theorem ok_TI (T : Txt K mg a) : ∃ fd, FnOk P w K mg base CX0 1 a.fTI fd ["self"] (spTI a) ∧ Binds K fd ["self"] [] := by
  obtain ⟨fd, F⟩ := T.FTI
  refine ⟨fd, F.ok scTI (fun vs H Q E h => ?_) (fun cdv A outer s H vs Q E hr h => ?_), F.binds (ps := ["self"]) fun _ _ _ _ _ _ us hl => match us, hl with | [_], _ => rfl⟩
  · obtain ⟨p, dx, rfl, _⟩ := h
    rfl
  · obtain ⟨p, dx, rfl, hp, k⟩ := h
    refine ⟨_, pss_cons (ps_fld (pv 0) pe_dnewK rfl) (pss_cons (ps_fld (pv 0) pe_dnewK rfl) (pss_cons (ps_fld (pv 0) pe_dnewK rfl) (pss_cons (ps_fld (pv 0) pe_dnewK rfl) (pss_one (ps_fld (pv 0) pe_int rfl))))), ?_⟩
    intro d1 n1
    have p1 : p ≠ d1 := ne_of_none hp n1
    refine ⟨_, rfl, p, a.CT, dx, [], rfl, by rw [upd_ne p1]; exact hp, T.clT, T.nT_goes_to, (by show 0 < 1000; decide), ?_⟩
    intro d2 n2
    obtain ⟨p2, n2⟩ := upd_none n2
    obtain ⟨d21, n2⟩ := upd_none n2
    refine ⟨_, rfl, p, a.CT, dx, _, rfl, by rw [upd_ne p2.symm, upd_same], T.clT, T.nT_pile_of, (by show 1 < 1000; decide), ?_⟩
    intro d3 n3
    obtain ⟨p3, n3⟩ := upd_none n3
    obtain ⟨d32, n3⟩ := upd_none n3
    obtain ⟨_, n3⟩ := upd_none n3
    obtain ⟨d31, n3⟩ := upd_none n3
    refine ⟨_, rfl, p, a.CT, dx, _, rfl, by rw [upd_ne p3.symm, upd_same], T.clT, T.nT_piles, (by show (putF "pile_of" (V.ref d2) (putF "goes_to" (V.ref d1) [])).length < 1000; exact Nat.lt_of_le_of_lt (length_putF _ _ _) (by have := length_putF "goes_to" (V.ref d1) []; simp at this; omega)), ?_⟩
    intro d4 n4
    obtain ⟨p4, n4⟩ := upd_none n4
    obtain ⟨d43, n4⟩ := upd_none n4
    obtain ⟨_, n4⟩ := upd_none n4
    obtain ⟨d42, n4⟩ := upd_none n4
    obtain ⟨_, n4⟩ := upd_none n4
    obtain ⟨d41, n4⟩ := upd_none n4
    have l3 : (putF "piles" (V.ref d3) (putF "pile_of" (V.ref d2) (putF "goes_to" (V.ref d1) []))).length ≤ 3 := Nat.le_trans (length_putF _ _ _) (by have h1 := length_putF "pile_of" (V.ref d2) (putF "goes_to" (V.ref d1) []); have h2 := length_putF "goes_to" (V.ref d1) []; simp at h2; omega)
    refine ⟨_, rfl, p, a.CT, dx, _, rfl, by rw [upd_ne p4.symm, upd_same], T.clT, T.nT_comes_from, Nat.lt_of_le_of_lt l3 (by decide), ?_⟩
    refine ⟨_, rfl, p, a.CT, dx, _, rfl, upd_same, T.clT, T.nT_made, Nat.lt_of_le_of_lt (length_putF _ _ _) (by omega), ?_⟩
    rw [fT_init]
    refine k _ (fun b => b = p ∨ b = d1 ∨ b = d2 ∨ b = d3 ∨ b = d4 ∨ False) ⟨dx, d1, d2, d3, d4, 0, fun _ => 0, fun _ => 0, 0, ?_⟩ ?_ ?_
    · exact
        { ob := upd_same
          nd := List.nodup_nil
          go := by simp [upd, p1.symm, d21.symm, d31.symm, d41.symm]; rfl
          po := by simp [upd, p2, d32.symm, d42.symm]; rfl
          pi := by simp [upd, p3, d43.symm]; rfl
          row := fun x hx => by cases hx
          inj := fun x hx => by cases hx
          fr := by simp [upd, p4]
          fc := fun h => absurd rfl h
          ne := ⟨d21.symm, d31.symm, d41.symm, d32.symm, d42.symm, d43.symm⟩
          fp := fun b => by simp }
    · refine Keeps.upd (Keeps.upd (Keeps.upd (Keeps.upd (Keeps.upd (Keeps.upd (Keeps.upd (Keeps.upd (Keeps.upd (Keeps.refl _ _) (.inr n1)) (.inl rfl)) (.inr n2)) (.inl rfl)) (.inr n3)) (.inl rfl)) (.inr n4)) (.inl rfl)) (.inl rfl)
    · rintro b (z | rfl | rfl | rfl | rfl | z)
      · exact .inl z
      · exact .inr n1
      · exact .inr n2
      · exact .inr n3
      · exact .inr n4
      · exact z.elim
theorem ok_TS (T : Txt K mg a) : ∃ fd, FnOk P w K mg base (L2.CX P w) 1 a.fTS fd ["self", "name"] (spTS a) ∧ Binds K fd ["self", "name"] [] := by
  obtain ⟨fd, F⟩ := T.FTS
  refine ⟨fd, F.okX scTS (fun vs H Q E h => ?_) (fun cdv A outer s H vs Q E hr h => ?_), F.binds (ps := ["self", "name"]) fun _ _ _ _ _ _ us hl => match us, hl with | [_, _], _ => rfl⟩
  · obtain ⟨q, v, I, rfl, _⟩ := h
    rfl
  · obtain ⟨p, v, T0, rfl, ⟨dx, d1, d2, d3, d4, n, f, hp, h1⟩, ok, kE, kQ⟩ := h
    have hu := hu_of hr
    refine ⟨_, pss_one (ps_if (pt_cmp (pc_dnotinN hu (pv 1) (pe_fld (pv 0) rfl))) (pss_one (ps_raise rfl (takes_of rfl rfl rfl rfl) (SkE.pmk_own1 PySem.F.excBase_ValueError T.xN T.gCN T.kN (raises_own T.bN T.tN) rfl (pe_words (by decide +kernel) (pv 1))))) pss_nil), ?_⟩
    refine ⟨_, rfl, _, rfl, p, a.CT, dx, _, _, rfl, hp, T.clT, T.nT_goes_to, fT_go _ _ _ _ _, ?_⟩
    rcases id ok with rfl | ⟨i, rfl, _⟩ | ⟨x, rfl, hx⟩
    · exact .inr ⟨d1, _, rfl, rfl, Rd.of h1, _, rfl, iteT ⟨_, rfl, ok, fun _ => kE fun _ z => nomatch z⟩⟩
    · exact .inl ⟨d1, none, rfl, dg (k := Sum.inl i) h1 (valV_num f i T0), _, rfl, iteT ⟨_, rfl, ok, fun _ => kE fun _ z => nomatch z⟩⟩
    · by_cases hi : x ∈ T0
      · exact .inl ⟨d1, some (f x), rfl, dg (k := Sum.inr x) h1 (valV_in hi), _, rfl, iteF (kQ ⟨x, rfl, hi⟩)⟩
      · exact .inl ⟨d1, none, rfl, dg (k := Sum.inr x) h1 (valV_out hi), _, rfl, iteT ⟨_, rfl, ok, fun _ => kE fun y z => by cases z; exact hi⟩⟩
theorem ok_TN (T : Txt K mg a) : ∃ fd, FnOk P w K mg base CX0 1 a.fTN fd ["self"] (spTN a) ∧ Binds K fd ["self"] [] := by
  obtain ⟨fd, F⟩ := T.FTN
  refine ⟨fd, F.ok scTN (fun vs H Q E h => ?_) (fun cdv A outer s H vs Q E hr h => ?_), F.binds (ps := ["self"]) fun _ _ _ _ _ _ us hl => match us, hl with | [_], _ => rfl⟩
  · obtain ⟨p, T0, rfl, _⟩ := h
    rfl
  · obtain ⟨p, T0, rfl, ⟨dx, d1, d2, d3, d4, n, f, hp, h1⟩, h64, k⟩ := h
    refine ⟨_, pss_one (ps_ret (pe_callB (call_sortedD rfl) (by rfl) T.m_sorted (by decide +kernel) (pa_cons (pe_fld (pv 0) rfl) pa_nil))), ?_⟩
    exact ⟨_, rfl, p, a.CT, dx, _, _, rfl, hp, T.clT, T.nT_goes_to, fT_go _ _ _ _ _, d1, _, T0, rfl, Rd.of h1, tb_keys _ _, h64, fun ys l hy hs hl => k _ l ys (same_upd hl) hl upd_same hy hs⟩
theorem ok_TW (T : Txt K mg a) : ∃ fd, FnOk P w K mg base CX0 1 a.fTW fd ["self", "name"] (spTW a) ∧ Binds K fd ["self", "name"] [] := by
  obtain ⟨fd, F⟩ := T.FTW
  refine ⟨fd, F.ok scTW (fun vs H Q E h => ?_) (fun cdv A outer s H vs Q E hr h => ?_), F.binds (ps := ["self", "name"]) fun _ _ _ _ _ _ us hl => match us, hl with | [_, _], _ => rfl⟩
  · obtain ⟨p, z, F0, T0, rfl, _⟩ := h
    rfl
  · obtain ⟨p, z, F0, T0, rfl, ⟨dx, d1, d2, d3, d4, n, N, L, dc, d⟩, hz, k⟩ := h
    have hu := hu_of hr
    refine ⟨_, pss_one (ps_ret (pe_callB (call_sortedD rfl) (by rfl) T.m_sorted (by decide +kernel) (pa_cons (pe_dget2 hu (pe_fld (pv 0) rfl) (pv 1) pe_dnewK ⟨rfl, rfl, rfl, rfl⟩) pa_nil))), ?_⟩
    have hv : valV (if T0 = [] then [] else [((Sum.inr "" : Key), V.ref dc)]) (Sum.inr z : Key) = none := by
      split
      · rfl
      · rw [valV_neg (p := ((Sum.inr "" : Key), V.ref dc)) (k := (Sum.inr z : Key)) (fun q => hz (Sum.inr.inj q).symm)]
        rfl
    refine ⟨_, rfl, p, a.CT, dx, _, _, rfl, d.ob, T.clT, T.nT_comes_from, fT_fr _ _ _ _ _, d4, rfl, .inl ⟨_, Rd.of d.fr⟩, _, rfl, fun t ht => ?_⟩
    refine ⟨none, dg (k := Sum.inr z) (same_upd ht _ _ d.fr) hv, t, [], [], rfl, Rd.of upd_same, rfl, (by decide), fun ys l hp hs hl => ?_⟩
    have e : ys = [] := List.Perm.eq_nil hp
    subst e
    exact k _ l (same_upd2 (same_upd ht) hl) (upd_none hl).2 upd_same
theorem ok_TD (T : Txt K mg a) : ∃ fd, FnOk P w K mg base (L2.CX P w) 2 a.fTD fd ["self", "name"] (spTD a) ∧ Binds K fd ["self", "name"] [] := by
  obtain ⟨fd, F⟩ := T.FTD
  obtain ⟨fdS, GS, bS⟩ := ok_TS (P := P) (w := w) (base := base) T
  refine ⟨fd, F.okX scTD (fun vs H Q E h => ?_) (fun cdv A outer s H vs Q E hr h => ?_), F.binds (ps := ["self", "name"]) fun _ _ _ _ _ _ us hl => match us, hl with | [_, _], _ => rfl⟩
  · obtain ⟨q, v, I, rfl, _⟩ := h
    rfl
  · obtain ⟨p, v, T0, rfl, rd, ok, kE, kQ⟩ := h
    have hu := hu_of hr
    refine ⟨_, pss_cons (ps_expr (pe_meth (pv 0) T.clT T.MTS GS hr bS .nil (passes_call (takes_of rfl rfl rfl rfl) (fun _ _ _ _ h => h)) (pa_cons (pv 1) pa_nil)))
      (PSs.nox (pss_cons (ps_set (i := 2) scTD.nd rfl (Or.inl rfl) (pe_disp (pps_cons (pv 1) pe_bl pps_nil) (by rfl) (by rfl) (fun z => by cases z) (by decide)))
      (pss_cons (ps_set (i := 3) scTD.nd rfl (Or.inl rfl) (pe_dget hu (pe_fld (pv 0) rfl) (pv 1) (fun _ _ => rfl)))
      (pss_cons (ps_while PassesOwn.never (PW.pt (pw_and (pt_cmp (pc_din hu (pv 3) (pe_fld (pv 0) rfl))) (pw_and1 (pt_cmp (pc_dnotin hu (pv 3) (pv 2))))))
        pss_never)
      (pss_one (ps_ret (pe_op op_sub (pe_callB call_lenD (by rfl) T.m_len PySem.boot_len (pa_cons (pv 2) pa_nil)) pe_int))))))), ?_⟩
    obtain ⟨dx0, d10, d20, d30, d40, n0, f0, hp0, h10⟩ := id rd
    refine ⟨_, rfl, p, dx0, _, rfl, hp0, no_meth _ _ _ _ _ (by decide +kernel), _, rfl, p, v, T0, rfl, rd, ok, kE, fun hin => ?_⟩
    obtain ⟨⟨x, F0, rfl, hx, ⟨dx, d1, d2, d3, d4, n, N, L, dc, d⟩, hE⟩, k⟩ := kQ hin
    -- met = {name: True}
    intro m hm
    refine ⟨_, rfl, upd_same, [(Sum.inr x, .bl true)], rfl, (by show 1 ≤ 15; decide), ?_⟩
    have mne : ∀ b o, H b = some o → (upd (upd H m (.dK [])) m (.dK (mergeK [] [(Sum.inr x, V.bl true)]))) b = some o := fun b o e => by
      have q := ne_of_none e hm
      rw [upd_ne q, upd_ne q]
      exact e
    -- above = self.goes_to[name]
    refine ⟨_, rfl, p, a.CT, dx, _, _, rfl, mne _ _ d.ob, T.clT, T.nT_goes_to, fT_go _ _ _ _ _, _, rfl, d1, _, rfl, dg (k := Sum.inr x) (mne _ _ d.go) (valV_in hx), ?_⟩
    refine ⟨fun _ σ Hc => σ = [some (.ref p), some (.str x), some (.ref m), some (.str "")] ∧ Hc = upd (upd H m (.dK [])) m (.dK (mergeK [] [(Sum.inr x, V.bl true)])), ⟨0, rfl, rfl⟩, ?_⟩
    rintro _ σ Hc ⟨rfl, rfl⟩
    refine ⟨_, rfl, _, rfl, p, a.CT, dx, _, _, rfl, mne _ _ d.ob, T.clT, T.nT_goes_to, fT_go _ _ _ _ _, d1, none, rfl, dg (k := Sum.inr "") (mne _ _ d.go) (valV_out hE), _, rfl, iteF (iteF ?_)⟩
    refine ⟨_, rfl, m, _, rfl, upd_same, _, _, rfl, rfl, ?_⟩
    exact k _ mne
end
end K24
/-! K24M3: what the methods of Threads do: names come, hang, go. -/
namespace K24
open PySem PySem.Spec PyProof.Rows L2

theorem valV_drop (k j : Key) : ∀ kvs : List (Key × V), valV (dropK kvs k) j = if j = k then none else valV kvs j
  | [] => by
    split <;> rfl
  | p :: r => by
    have ih := valV_drop k j r
    by_cases e : p.1 = k
    · rw [dropK_pos e, ih]
      by_cases q : j = k
      · rw [if_pos q, if_pos q]
      · rw [if_neg q, if_neg q, valV_neg (fun z => q (z.symm.trans e))]
    · rw [dropK_neg e]
      by_cases q : p.1 = j
      · rw [valV_pos q, valV_pos q, if_neg (fun z => e (q.trans z))]
      · rw [valV_neg q, valV_neg q, ih]
/-- the heap behind a new pile of x, its list at l -/
def pileH (C : Addr) (H : Hp) (p dx d1 d2 d3 d4 : Addr) (n : Int) (x : Str) (k2 k3 : List (Key × V)) (l : Addr) : Hp :=
  upd (upd (upd (upd H p (.ins C dx (fT d1 d2 d3 d4 (n + 1)))) d2 (.dK (putK k2 (Sum.inr x : Key) (.int (n + 1))))) l (.lst [.str x])) d3 (.dK (putK k3 (Sum.inl (n + 1) : Key) (.ref l)))
structure PilePre (C : Addr) (H : Hp) (p dx d1 d2 d3 d4 : Addr) (n : Int) (x : Str) (k2 k3 : List (Key × V)) : Prop where
  ob : H p = some (.ins C dx (fT d1 d2 d3 d4 n))
  h2 : H d2 = some (.dK k2)
  h3 : H d3 = some (.dK k3)
  v2 : valV k2 (Sum.inr x : Key) = none
  l2 : k2.length ≤ 500
  l3 : k3.length ≤ 500
  ne : d2 ≠ d3
section
variable {C p dx d1 d2 d3 d4 : Addr} {H : Hp} {n : Int} {x : Str} {k2 k3 : List (Key × V)} {l : Addr}
theorem PilePre.p2 (h : PilePre C H p dx d1 d2 d3 d4 n x k2 k3) : p ≠ d2 := ne_of h.ob h.h2 (by intro z; cases z)
theorem PilePre.p3 (h : PilePre C H p dx d1 d2 d3 d4 n x k2 k3) : p ≠ d3 := ne_of h.ob h.h3 (by intro z; cases z)
theorem PilePre.at_p (h : PilePre C H p dx d1 d2 d3 d4 n x k2 k3) (hl : H l = none) : pileH C H p dx d1 d2 d3 d4 n x k2 k3 l p = some (.ins C dx (fT d1 d2 d3 d4 (n + 1))) := by
  unfold pileH
  rw [upd_ne h.p3, upd_ne (ne_of_none h.ob hl), upd_ne h.p2, upd_same]
theorem PilePre.at_2 (h : PilePre C H p dx d1 d2 d3 d4 n x k2 k3) (hl : H l = none) : pileH C H p dx d1 d2 d3 d4 n x k2 k3 l d2 = some (.dK (putK k2 (Sum.inr x : Key) (.int (n + 1)))) := by
  unfold pileH
  rw [upd_ne h.ne, upd_ne (ne_of_none h.h2 hl), upd_same]
theorem pile_3 : pileH C H p dx d1 d2 d3 d4 n x k2 k3 l d3 = some (.dK (putK k3 (Sum.inl (n + 1) : Key) (.ref l))) := by
  unfold pileH
  rw [upd_same]
theorem PilePre.at_l (h : PilePre C H p dx d1 d2 d3 d4 n x k2 k3) (hl : H l = none) : pileH C H p dx d1 d2 d3 d4 n x k2 k3 l l = some (.lst [.str x]) := by
  unfold pileH
  rw [upd_ne (fun z => by rw [z, h.h3] at hl; cases hl), upd_same]
theorem PilePre.old (h : PilePre C H p dx d1 d2 d3 d4 n x k2 k3) (hl : H l = none) {b : Addr} {o : HO} (e : H b = some o) (hp : b ≠ p) (h2 : b ≠ d2) (h3 : b ≠ d3) : pileH C H p dx d1 d2 d3 d4 n x k2 k3 l b = some o := by
  unfold pileH
  rw [upd_ne h3, upd_ne (ne_of_none e hl), upd_ne h2, upd_ne hp]
  exact e
end

/-- pile of a name that lies in none -/
def spTP (a : Ads) : Sp := fun vs H Q _ => ∃ (p : Addr) (x : Str) (dx d1 d2 d3 d4 : Addr) (n : Int) (k2 k3 : List (Key × V)), vs = [.ref p, .str x] ∧ PilePre a.CT H p dx d1 d2 d3 d4 n x k2 k3 ∧
  ∀ l, H l = none → Q (.int (n + 1)) (pileH a.CT H p dx d1 d2 d3 d4 n x k2 k3 l)
/-- put_together: two piles of one name each -/
def spTG (a : Ads) : Sp := fun vs H Q _ => ∃ (p : Addr) (m1 m2 : Int) (dx d1 d2 d3 d4 : Addr) (n : Int) (k2 k3 : List (Key × V)) (l1 l2 : Addr) (x y : Str), vs = [.ref p, .int m1, .int m2] ∧ m1 ≠ m2 ∧ l1 ≠ l2 ∧ d2 ≠ d3 ∧
  H p = some (.ins a.CT dx (fT d1 d2 d3 d4 n)) ∧ H d2 = some (.dK k2) ∧ H d3 = some (.dK k3) ∧ valV k3 (Sum.inl m1 : Key) = some (.ref l1) ∧ valV k3 (Sum.inl m2 : Key) = some (.ref l2) ∧ H l1 = some (.lst [.str x]) ∧ H l2 = some (.lst [.str y]) ∧
  k2.length ≤ 500 ∧ k3.length ≤ 500 ∧
  Q .non (upd (upd (upd (upd H d3 (.dK (dropK k3 (Sum.inl m2 : Key)))) d2 (.dK (putK k2 (Sum.inr y : Key) (.int m1)))) l1 (.lst [.str x, .str y])) d3 (.dK (putK (dropK k3 (Sum.inl m2 : Key)) (Sum.inl m1 : Key) (.ref l1))))
section
variable {P : Program} {w : World} {K : PySem.W.Frag} {mg : Str → Option Value} {base : Heap} {a : Ads}
theorem ok_TP (T : Txt K mg a) : ∃ fd, FnOk P w K mg base CX0 1 a.fTP fd ["self", "name"] (spTP a) ∧ Binds K fd ["self", "name"] [] := by
  obtain ⟨fd, F⟩ := T.FTP
  refine ⟨fd, F.ok scTP (fun vs H Q E h => ?_) (fun cdv A outer s H vs Q E hr h => ?_), F.binds (ps := ["self", "name"]) fun _ _ _ _ _ _ us hl => match us, hl with | [_, _], _ => rfl⟩
  · obtain ⟨p, x, dx, d1, d2, d3, d4, n, k2, k3, rfl, _⟩ := h
    rfl
  · obtain ⟨p, x, dx, d1, d2, d3, d4, n, k2, k3, rfl, pre, k⟩ := h
    have hu := hu_of hr
    refine ⟨_, pss_cons (ps_if (pt_cmp (pc_dnotin hu (pv 1) (pe_fld (pv 0) rfl)))
        (pss_cons (ps_fldaug (pv 0) pe_int in_add)
        (pss_cons (ps_dput hu (pe_fld (pv 0) rfl) (pv 1) (pe_fld (pv 0) rfl) rfl)
        (pss_one (ps_dput hu (pe_fld (pv 0) rfl) (pe_fld (pv 0) rfl) (pe_lst (pa_cons (pv 1) pa_nil)) rfl)))) pss_nil)
      (pss_one (ps_ret (pe_dget hu (pe_fld (pv 0) rfl) (pv 1) (fun _ _ => rfl)))), ?_⟩
    refine ⟨_, rfl, _, rfl, p, a.CT, dx, _, _, rfl, pre.ob, T.clT, T.nT_pile_of, fT_po _ _ _ _ _, d2, none, rfl, dg (k := Sum.inr x) pre.h2 pre.v2, _, rfl, iteT ?_⟩
    -- self.made += 1
    refine ⟨_, rfl, p, a.CT, dx, _, _, rfl, pre.ob, T.clT, T.nT_made, fT_md _ _ _ _ _, n, 1, rfl, rfl, dx, _, pre.ob, (by show 5 < 1000; decide), ?_⟩
    rw [fT_put]
    -- self.pile_of[name] = self.made
    have h2 : upd H p (.ins a.CT dx (fT d1 d2 d3 d4 (n + 1))) d2 = some (.dK k2) := by rw [upd_ne pre.p2.symm]; exact pre.h2
    refine ⟨_, rfl, p, a.CT, dx, _, _, rfl, upd_same, T.clT, T.nT_made, fT_md _ _ _ _ _, _, rfl, p, a.CT, dx, _, _, rfl, upd_same, T.clT, T.nT_pile_of, fT_po _ _ _ _ _, _, rfl, d2, _, rfl, DPut.k (k := Sum.inr x) h2 (small_line (by have := pre.l2; omega)), ?_⟩
    -- self.piles[self.made] = [name]
    refine ⟨_, rfl, (by show 1 ≤ sizeLine; decide), fun l hl => ?_⟩
    obtain ⟨l2, hl⟩ := upd_none hl
    obtain ⟨lp, hl⟩ := upd_none hl
    have hp4 : upd (upd (upd H p (.ins a.CT dx (fT d1 d2 d3 d4 (n + 1)))) d2 (.dK (putK k2 (Sum.inr x : Key) (.int (n + 1))))) l (.lst [.str x]) p = some (.ins a.CT dx (fT d1 d2 d3 d4 (n + 1))) := by rw [upd_ne lp.symm, upd_ne pre.p2, upd_same]
    have h34 : upd (upd (upd H p (.ins a.CT dx (fT d1 d2 d3 d4 (n + 1)))) d2 (.dK (putK k2 (Sum.inr x : Key) (.int (n + 1))))) l (.lst [.str x]) d3 = some (.dK k3) := by rw [upd_ne (ne_of_none pre.h3 hl), upd_ne pre.ne.symm, upd_ne pre.p3.symm]; exact pre.h3
    refine ⟨_, rfl, p, a.CT, dx, _, _, rfl, hp4, T.clT, T.nT_piles, fT_pi _ _ _ _ _, _, rfl, p, a.CT, dx, _, _, rfl, hp4, T.clT, T.nT_made, fT_md _ _ _ _ _, d3, _, rfl, DPut.k (k := Sum.inl (n + 1)) h34 (small_line (by have := pre.l3; omega)), ?_⟩
    -- return self.pile_of[name]
    refine ⟨_, rfl, p, a.CT, dx, _, _, rfl, pre.at_p hl, T.clT, T.nT_pile_of, fT_po _ _ _ _ _, _, rfl, d2, _, rfl, dg (k := Sum.inr x) (pre.at_2 hl) (by rw [valV_put, if_pos rfl]), ?_⟩
    exact k l hl
theorem ok_TG (T : Txt K mg a) : ∃ fd, FnOk P w K mg base CX0 1 a.fTG fd ["self", "one", "other"] (spTG a) ∧ Binds K fd ["self", "one", "other"] [] := by
  obtain ⟨fd, F⟩ := T.FTG
  refine ⟨fd, F.ok scTG (fun vs H Q E h => ?_) (fun cdv A outer s H vs Q E hr h => ?_), F.binds (ps := ["self", "one", "other"]) fun _ _ _ _ _ _ us hl => match us, hl with | [_, _, _], _ => rfl⟩
  · obtain ⟨p, m1, m2, dx, d1, d2, d3, d4, n, k2, k3, l1, l2, x, y, rfl, _⟩ := h
    rfl
  · obtain ⟨p, m1, m2, dx, d1, d2, d3, d4, n, k2, k3, l1, l2, x, y, rfl, hm, hl, h23, hp, h2, h3, v1, v2, r1, r2, s2, s3, k⟩ := h
    have hu := hu_of hr
    refine ⟨_, pss_cons (ps_if (pt_cmpR op_eq (pv 1) (pv 2) (nomark _)) (pss_one ps_retN) pss_nil)
      (pss_cons (ps_if (pt_cmpR op_lt (pe_callB call_len_seq (by rfl) T.m_len PySem.boot_len (pa_cons (pe_dget hu (pe_fld (pv 0) rfl) (pv 1) (fun _ _ => rfl)) pa_nil)) (pe_callB call_len_seq (by rfl) T.m_len PySem.boot_len (pa_cons (pe_dget hu (pe_fld (pv 0) rfl) (pv 2) (fun _ _ => rfl)) pa_nil)) (nomark _)) pss_never pss_nil)
      (pss_cons (ps_set (i := 3) scTG.nd rfl (Or.inl rfl) (pe_dpop1 (pe_fld (pv 0) rfl) (pv 2) ⟨rfl, rfl, rfl, rfl⟩))
      (pss_cons (ps_for PassesOwn.never rfl (pi_list (pv 3)) (pg_name (i := 4) scTG.nd rfl (Or.inl rfl)) (pss_one (ps_dput hu (pe_fld (pv 0) rfl) (pv 4) (pv 1) rfl)))
      (pss_one (ps_daug hu (pe_fld (pv 0) rfl) (pv 1) (pv 3) iop_ext (fun _ _ _ => rfl)))))), ?_⟩
    have ed : decide (V.int m1 = V.int m2) = false := decide_eq_false fun z => hm (V.int.inj z)
    refine ⟨_, rfl, _, rfl, rfl, _, rfl, ?_⟩
    rw [ed]
    refine iteF ?_
    refine ⟨_, rfl, p, a.CT, dx, _, _, rfl, hp, T.clT, T.nT_piles, fT_pi _ _ _ _ _, _, rfl, d3, _, rfl, dg (k := Sum.inl m1) h3 v1, l1, _, rfl, .inl (SqL.of r1), ?_⟩
    refine ⟨_, rfl, p, a.CT, dx, _, _, rfl, hp, T.clT, T.nT_piles, fT_pi _ _ _ _ _, _, rfl, d3, _, rfl, dg (k := Sum.inl m2) h3 v2, l2, _, rfl, .inl (SqL.of r2), _, _, rfl, rfl, _, rfl, iteF ?_⟩
    have p3 : p ≠ d3 := ne_of hp h3 (by intro z; cases z)
    have p2 : p ≠ d2 := ne_of hp h2 (by intro z; cases z)
    have l13 : l1 ≠ d3 := ne_of r1 h3 (by intro z; cases z)
    have l23 : l2 ≠ d3 := ne_of r2 h3 (by intro z; cases z)
    have l12 : l1 ≠ d2 := ne_of r1 h2 (by intro z; cases z)
    have l22 : l2 ≠ d2 := ne_of r2 h2 (by intro z; cases z)
    have l1p : l1 ≠ p := ne_of r1 hp (by intro z; cases z)
    -- moved = self.piles.pop(other)
    refine ⟨_, rfl, p, a.CT, dx, _, _, rfl, hp, T.clT, T.nT_piles, fT_pi _ _ _ _ _, d3, rfl, .inl ⟨_, Rd.of h3⟩, _, rfl, _, Sum.inl m2, _, h3, rfl, v2, ?_⟩
    -- for name in moved: self.pile_of[name] = one
    have q1 : upd H d3 (.dK (dropK k3 (Sum.inl m2 : Key))) l2 = some (.lst [.str y]) := by rw [upd_ne l23]; exact r2
    refine ⟨_, rfl, l2, rfl, ⟨_, SqL.of q1⟩, ?_⟩
    refine for_list (K := K) (a := l2) (xs := [.str y]) (fun j σ Hc => ∃ v, σ = [some (.ref p), some (.int m1), some (.int m2), some (.ref l2), v] ∧
      Hc = if j = 0 then upd H d3 (.dK (dropK k3 (Sum.inl m2 : Key))) else upd (upd H d3 (.dK (dropK k3 (Sum.inl m2 : Key)))) d2 (.dK (putK k2 (Sum.inr y : Key) (.int m1)))) ⟨_, rfl, rfl⟩ ?_ ?_ ?_
    · rintro j σ Hc _ ⟨v, rfl, rfl⟩
      refine SqL.of ?_
      split
      · exact q1
      · rw [upd_ne l22]
        exact q1
    · rintro j u σ Hc hj ⟨v, rfl, rfl⟩
      have hj0 : j = 0 := by
        have := (List.getElem?_eq_some_iff.mp hj).1
        simpa using this
      subst hj0
      have hu' : u = .str y := (Option.some.inj hj).symm
      subst hu'
      refine ⟨_, rfl, _, rfl, p, a.CT, dx, _, _, rfl, (by rw [if_pos rfl, upd_ne p3]; exact hp), T.clT, T.nT_pile_of, fT_po _ _ _ _ _, _, rfl, d2, _, rfl, DPut.k (k := Sum.inr y) (by rw [if_pos rfl, upd_ne h23]; exact h2) (small_line (by omega)), ?_⟩
      exact ⟨_, rfl, rfl⟩
    · rintro σ Hc ⟨v, rfl, rfl⟩
      rw [if_neg (show ¬ [V.str y].length = 0 from Nat.one_ne_zero)]
      -- self.piles[one] += moved
      have hp' : upd (upd H d3 (.dK (dropK k3 (Sum.inl m2 : Key)))) d2 (.dK (putK k2 (Sum.inr y : Key) (.int m1))) p = some (.ins a.CT dx (fT d1 d2 d3 d4 n)) := by rw [upd_ne p2, upd_ne p3]; exact hp
      have h3' : upd (upd H d3 (.dK (dropK k3 (Sum.inl m2 : Key)))) d2 (.dK (putK k2 (Sum.inr y : Key) (.int m1))) d3 = some (.dK (dropK k3 (Sum.inl m2 : Key))) := by rw [upd_ne h23.symm, upd_same]
      have vd : valV (dropK k3 (Sum.inl m2 : Key)) (Sum.inl m1 : Key) = some (.ref l1) := by rw [valV_drop, if_neg (fun z => hm (Sum.inl.inj z))]; exact v1
      refine ⟨_, rfl, p, a.CT, dx, _, _, rfl, hp', T.clT, T.nT_piles, fT_pi _ _ _ _ _, _, rfl, d3, _, rfl, dg (k := Sum.inl m1) h3' vd, _, rfl, l1, l2, [.str x], [.str y], rfl, rfl, ?_, ?_, (by show 2 ≤ sizeLine; decide), ?_⟩
      · rw [upd_ne l12, upd_ne l13]; exact r1
      · rw [upd_ne l22, upd_ne l23]; exact r2
      · refine ⟨_, DPut.k (k := Sum.inl m1) (by rw [upd_ne l13.symm]; exact h3') (small_line (by have := dropK_le k3 (Sum.inl m2 : Key); omega)), ?_⟩
        exact k
end
end K24
/-! K24M4: what the methods of Threads do: a name comes, goes; its thread; all threads. -/
namespace K24
open PySem PySem.Spec PyProof.Rows L2

theorem pile_keeps {F : Addr → Prop} {C p dx d1 d2 d3 d4 : Addr} {H0 H : Hp} {n : Int} {x : Str} {k2 k3 : List (Key × V)} {l : Addr} (k : Keeps F H0 H) (hp : F p) (h2 : F d2) (h3 : F d3) (hl : F l ∨ H0 l = none) :
    Keeps F H0 (pileH C H p dx d1 d2 d3 d4 n x k2 k3 l) := (((k.upd (.inl hp)).upd (.inl h2)).upd hl).upd (.inl h3)
/-- hang of a name that lies in no pile yet, and answers none or one that lies in none -/
def spTH (a : Ads) : Sp := fun vs H Q _ => ∃ (p : Addr) (x ans : Str) (dx d1 d2 d3 d4 : Addr) (n : Int) (k1 k2 k3 : List (Key × V)), vs = [.ref p, .str x] ∧ PilePre a.CT H p dx d1 d2 d3 d4 n x k2 k3 ∧ H d1 = some (.dK k1) ∧
  valV k1 (Sum.inr x : Key) = some (.str ans) ∧ d1 ≠ d2 ∧ d1 ≠ d3 ∧
  ((ans = "" ∧ ∀ l, H l = none → Q .non (pileH a.CT H p dx d1 d2 d3 d4 n x k2 k3 l)) ∨
   (ans ≠ "" ∧ ans ≠ x ∧ valV k2 (Sum.inr ans : Key) = none ∧ k2.length ≤ 300 ∧ k3.length ≤ 300 ∧ ∀ (H' : Hp) (n' : Int) (k2' k3' : List (Key × V)) (l : Addr), H' p = some (.ins a.CT dx (fT d1 d2 d3 d4 n')) → H' d1 = some (.dK k1) → H' d2 = some (.dK k2') →
      valV k2' (Sum.inr x : Key) = some (.int (n + 1)) → H' d3 = some (.dK k3') → valV k3' (Sum.inl (n + 1) : Key) = some (.ref l) → H' l = some (.lst [.str x, .str ans]) → Keeps (fun b => b = p ∨ b = d2 ∨ b = d3) H H' → Q .non H'))
section
variable {P : Program} {w : World} {K : PySem.W.Frag} {mg : Str → Option Value} {base : Heap} {a : Ads}
theorem ok_TH (T : Txt K mg a) : ∃ fd, FnOk P w K mg base CX0 2 a.fTH fd ["self", "name"] (spTH a) ∧ Binds K fd ["self", "name"] [] := by
  obtain ⟨fd, F⟩ := T.FTH
  obtain ⟨fdP, GP, bP⟩ := ok_TP (P := P) (w := w) (base := base) T
  obtain ⟨fdG, GG, bG⟩ := ok_TG (P := P) (w := w) (base := base) T
  refine ⟨fd, F.ok scTH (fun vs H Q E h => ?_) (fun cdv A outer s H vs Q E hr h => ?_), F.binds (ps := ["self", "name"]) fun _ _ _ _ _ _ us hl => match us, hl with | [_, _], _ => rfl⟩
  · obtain ⟨p, x, ans, dx, d1, d2, d3, d4, n, k1, k2, k3, rfl, _⟩ := h
    rfl
  · obtain ⟨p, x, ans, dx, d1, d2, d3, d4, n, k1, k2, k3, rfl, pre, h1, v1, d12, d13, k⟩ := h
    have hu := hu_of hr
    refine ⟨_, pss_cons (ps_set (i := 2) scTH.nd rfl (Or.inl rfl) (pe_meth (pv 0) T.clT T.MTP GP hr bP .nil pass0 (pa_cons (pv 1) pa_nil)))
      (pss_one (ps_if (pt_cmpR op_ne (pe_dget hu (pe_fld (pv 0) rfl) (pv 1) (fun _ _ => rfl)) pe_str (nomark _))
        (pss_one (ps_expr (pe_meth (pv 0) T.clT T.MTG GG hr bG .nil pass0 (pa_cons (pv 2) (pa_cons (pe_meth (pv 0) T.clT T.MTP GP hr bP .nil pass0 (pa_cons (pe_dget hu (pe_fld (pv 0) rfl) (pv 1) (fun _ _ => rfl)) pa_nil)) pa_nil))))) pss_nil)), ?_⟩
    have p1 : p ≠ d1 := ne_of pre.ob h1 (by intro z; cases z)
    -- here = self.pile(name)
    refine ⟨_, rfl, p, dx, _, rfl, pre.ob, no_meth _ _ _ _ _ (by decide +kernel), _, rfl, p, x, dx, d1, d2, d3, d4, n, k2, k3, rfl, pre, fun l hl => ?_⟩
    have g1 : pileH a.CT H p dx d1 d2 d3 d4 n x k2 k3 l d1 = some (.dK k1) := pre.old hl h1 p1.symm d12 d13
    -- if self.goes_to[name] != ''
    refine ⟨_, rfl, p, a.CT, dx, _, _, rfl, pre.at_p hl, T.clT, T.nT_goes_to, fT_go _ _ _ _ _, _, rfl, d1, _, rfl, dg (k := Sum.inr x) g1 v1, rfl, _, rfl, ?_⟩
    rcases k with ⟨rfl, k⟩ | ⟨hne, hnx, v2, s2, s3, k⟩
    · have e : (!decide (V.str (("" : String) : Str) = V.str "")) = false := by rw [decide_eq_true rfl]; rfl
      rw [e]
      exact iteF (k l hl)
    · have e : (!decide (V.str ans = V.str (("" : String) : Str))) = true := by
        rw [decide_eq_false (fun z => hne (V.str.inj z))]
        rfl
      rw [e]
      refine iteT ?_
      have pre2 : PilePre a.CT (pileH a.CT H p dx d1 d2 d3 d4 n x k2 k3 l) p dx d1 d2 d3 d4 (n + 1) ans (putK k2 (Sum.inr x : Key) (.int (n + 1))) (putK k3 (Sum.inl (n + 1) : Key) (.ref l)) :=
        { ob := pre.at_p hl, h2 := pre.at_2 hl, h3 := pile_3, v2 := by rw [valV_put, if_neg (fun z => hnx (Sum.inr.inj z))]; exact v2
          l2 := by have := length_putK k2 (Sum.inr x : Key) (.int (n + 1)); omega
          l3 := by have := length_putK k3 (Sum.inl (n + 1) : Key) (.ref l); omega
          ne := pre.ne }
      -- self.put_together(here, self.pile(self.goes_to[name]))
      refine ⟨_, rfl, p, dx, _, rfl, pre.at_p hl, no_meth _ _ _ _ _ (by decide +kernel), _, rfl, _, rfl, p, dx, _, rfl, pre.at_p hl, no_meth _ _ _ _ _ (by decide +kernel), ?_⟩
      refine ⟨_, rfl, p, a.CT, dx, _, _, rfl, pre.at_p hl, T.clT, T.nT_goes_to, fT_go _ _ _ _ _, _, rfl, d1, _, rfl, dg (k := Sum.inr x) g1 v1, p, ans, dx, d1, d2, d3, d4, n + 1, _, _, rfl, pre2, fun l2 hl2 => ?_⟩
      have hl2' : l2 ≠ l ∧ H l2 = none := by
        unfold pileH at hl2
        obtain ⟨_, q⟩ := upd_none hl2
        obtain ⟨z1, q⟩ := upd_none q
        obtain ⟨_, q⟩ := upd_none q
        obtain ⟨_, q⟩ := upd_none q
        exact ⟨z1, q⟩
      have rl : pileH a.CT (pileH a.CT H p dx d1 d2 d3 d4 n x k2 k3 l) p dx d1 d2 d3 d4 (n + 1) ans (putK k2 (Sum.inr x : Key) (.int (n + 1))) (putK k3 (Sum.inl (n + 1) : Key) (.ref l)) l2 l = some (.lst [.str x]) :=
        pre2.old hl2 (pre.at_l hl) (fun z => by rw [z, pre.ob] at hl; cases hl) (fun z => by rw [z, pre.h2] at hl; cases hl) (fun z => by rw [z, pre.h3] at hl; cases hl)
      have n12 : n + 1 ≠ n + 1 + 1 := by omega
      refine ⟨p, n + 1, n + 1 + 1, dx, d1, d2, d3, d4, n + 1 + 1, _, _, l, l2, x, ans, rfl, n12, hl2'.1.symm, pre.ne, pre2.at_p hl2, pre2.at_2 hl2, pile_3, ?_, ?_, rl, pre2.at_l hl2, ?_, ?_, ?_⟩
      · rw [valV_put, if_neg (fun z => n12 (Sum.inl.inj z)), valV_put, if_pos rfl]
      · rw [valV_put, if_pos rfl]
      · have q1 := length_putK (putK k2 (Sum.inr x : Key) (.int (n + 1))) (Sum.inr ans : Key) (.int (n + 1 + 1))
        have q2 := length_putK k2 (Sum.inr x : Key) (.int (n + 1))
        omega
      · have q1 := length_putK (putK k3 (Sum.inl (n + 1) : Key) (.ref l)) (Sum.inl (n + 1 + 1) : Key) (.ref l2)
        have q2 := length_putK k3 (Sum.inl (n + 1) : Key) (.ref l)
        omega
      · have lp : l ≠ p := fun z => by rw [z, pre.ob] at hl; cases hl
        have ld1 : l ≠ d1 := fun z => by rw [z, h1] at hl; cases hl
        have ld2 : l ≠ d2 := fun z => by rw [z, pre.h2] at hl; cases hl
        have ld3 : l ≠ d3 := fun z => by rw [z, pre.h3] at hl; cases hl
        have p2 := pre.p2
        have p3 := pre.p3
        refine k _ (n + 1 + 1) _ _ l ?_ ?_ (Eq.trans (upd_ne pre.ne) (Eq.trans (upd_ne ld2.symm) upd_same)) ?_ upd_same ?_ ?_ ?_
        · rw [upd_ne p3, upd_ne lp.symm, upd_ne p2, upd_ne p3]
          exact pre2.at_p hl2
        · rw [upd_ne d13, upd_ne ld1.symm, upd_ne d12, upd_ne d13]
          exact pre2.old hl2 g1 p1.symm d12 d13
        · have q : ¬ (Sum.inr x : Key) = Sum.inr ans := fun z => hnx (Sum.inr.inj z).symm
          rw [valV_put, if_neg q, valV_put, if_neg q, valV_put, if_pos rfl]
        · rw [valV_put, if_pos rfl]
        · rw [upd_ne ld3, upd_same]
        · have f1 : Keeps (fun b => b = p ∨ b = d2 ∨ b = d3) H (pileH a.CT H p dx d1 d2 d3 d4 n x k2 k3 l) := pile_keeps (Keeps.refl _ _) (.inl rfl) (.inr (.inl rfl)) (.inr (.inr rfl)) (.inr hl)
          have f2 := pile_keeps (C := a.CT) (dx := dx) (d1 := d1) (d4 := d4) (n := n + 1) (x := ans) (k2 := putK k2 (Sum.inr x : Key) (.int (n + 1))) (k3 := putK k3 (Sum.inl (n + 1) : Key) (.ref l)) (l := l2) f1 (.inl rfl) (.inr (.inl rfl)) (.inr (.inr rfl)) (.inr hl2'.2)
          exact (((f2.upd (.inl (.inr (.inr rfl)))).upd (.inl (.inr (.inl rfl)))).upd (.inr hl)).upd (.inl (.inr (.inr rfl)))

/-- add: a name comes that answers none; or one that answers another one that is nowhere -/
def spTA (a : Ads) : Sp := fun vs H Q E => ∃ (p : Addr) (x ans : Str) (T : List Str), vs = [.ref p, .str x, .str ans] ∧ ThrRd a.CT H p T ∧ x.length ≤ 100 ∧ (x ∈ T → E (.ref a.CN) none H) ∧
  (x ∉ T → ∃ F : Addr → Prop, ThrAt a.CT H p F T ∧ T.length ≤ 100 ∧ ((ans = "" ∧ ∀ (H' : Hp) (F' : Addr → Prop), ThrAt a.CT H' p F' (T ++ [x]) → Keeps F H H' → Grow F H F' → Q .non H') ∨
    (ans ≠ "" ∧ ans ≠ x ∧ ans ∉ T ∧ ∀ H' : Hp, ThrOne a.CT H' p (T ++ [x]) x → Keeps F H H' → Q .non H')))
/-- what stands behind the first two stores of add -/
structure AddMid (C : Addr) (H H' : Hp) (F : Addr → Prop) (T : List Str) (x ans : Str) (p dx d1 d2 d3 d4 : Addr) (n : Int) (N : Str → Int) (L : Str → Addr) (dc : Addr) : Prop where
  ob : H' p = some (.ins C dx (fT d1 d2 d3 d4 n))
  go : ∃ f, H' d1 = some (.dK (tb f (T ++ [x]))) ∧ f x = .str ans ∧ ∀ y ∈ T, f y = .str ""
  po : H' d2 = some (.dK (tb (fun x => .int (N x)) T))
  pi : H' d3 = some (.dK (tbN N (fun x => .ref (L x)) T))
  row : ∀ y ∈ T, H' (L y) = some (.lst [.str y])
  fr : ans = "" → H' d4 = some (.dK [(Sum.inr "", .ref dc)]) ∧ H' dc = some (.dK (tb (fun _ => .bl true) (T ++ [x]))) ∧ dc ≠ d1 ∧ dc ≠ d2 ∧ dc ≠ d3 ∧ dc ≠ d4 ∧ dc ≠ p ∧ (F dc ∨ H dc = none)
  kp : Keeps F H H'
theorem ok_TA (T : Txt K mg a) : ∃ fd, FnOk P w K mg base (L2.CX P w) 3 a.fTA fd ["self", "name", "answers"] (spTA a) ∧ Binds K fd ["self", "name", "answers"] [] ∧ ∃ ds, Vals [V.str ""] ds ∧ Binds K fd ["self", "name", "answers"] ds := by
  obtain ⟨fd, F⟩ := T.FTA
  obtain ⟨fdH, GH, bH⟩ := ok_TH (P := P) (w := w) (base := base) T
  refine ⟨fd, F.ok scTA (fun vs H Q E h => ?_) (fun cdv A outer s H vs Q E hr h => ?_), ?_, ?_⟩
  · obtain ⟨p, x, ans, T0, rfl, _⟩ := h
    rfl
  · obtain ⟨p, x, ans, T0, rfl, ⟨dx0, d10, d20, d30, d40, n0, f0, hp0, h10⟩, hx, kE, kQ⟩ := h
    have hu := hu_of hr
    refine ⟨_, pss_cons (ps_if (pt_cmp (pc_din hu (pv 1) (pe_fld (pv 0) rfl))) (pss_one (ps_raise rfl (takes_of rfl rfl rfl rfl) (SkE.pmk_own1 PySem.F.excBase_ValueError T.xN T.gCN T.kN (raises_own T.bN T.tN) rfl (pe_words (by decide +kernel) (pv 1))))) pss_nil)
      (PSs.nox (pss_cons (ps_dput hu (pe_fld (pv 0) rfl) (pv 1) (pv 2) rfl)
      (pss_cons (ps_dput hu (pe_dsetd (pe_fld (pv 0) rfl) (pv 2) pe_dnewK ⟨rfl, rfl, rfl, rfl⟩) (pv 1) pe_bl rfl)
      (pss_one (ps_expr (pe_meth (pv 0) T.clT T.MTH GH hr bH .nil pass0 (pa_cons (pv 1) pa_nil))))))), ?_⟩
    refine ⟨_, rfl, _, rfl, p, a.CT, dx0, _, _, rfl, hp0, T.clT, T.nT_goes_to, fT_go _ _ _ _ _, d10, (if x ∈ T0 then some (f0 x) else none), rfl, dg (k := Sum.inr x) h10 (valV_tb f0 x T0), _, rfl, ?_⟩
    by_cases hi : x ∈ T0
    · rw [if_pos hi]
      exact iteT ⟨_, rfl, .inr (.inr ⟨x, rfl, hx⟩), fun _ => kE hi⟩
    · rw [if_neg hi]
      refine iteF ?_
      obtain ⟨F0, ⟨dx, d1, d2, d3, d4, n, N, L, dc, d⟩, hT, k⟩ := kQ hi
      clear hp0 h10 kE kQ
      obtain ⟨d12, d13, d14, d23, d24, d34⟩ := d.ne
      have fp : F0 p := (d.fp p).mpr (.inl rfl)
      have f1 : F0 d1 := (d.fp d1).mpr (.inr (.inl rfl))
      have f4 : F0 d4 := (d.fp d4).mpr (.inr (.inr (.inr (.inr (.inl rfl)))))
      have p1 : p ≠ d1 := ne_of d.ob d.go (by intro z; cases z)
      have p2 : p ≠ d2 := ne_of d.ob d.po (by intro z; cases z)
      have p3 : p ≠ d3 := ne_of d.ob d.pi (by intro z; cases z)
      have p4 : p ≠ d4 := ne_of d.ob d.fr (by intro z; cases z)
      -- self.goes_to[name] = answers
      refine ⟨_, rfl, _, rfl, p, a.CT, dx, _, _, rfl, d.ob, T.clT, T.nT_goes_to, fT_go _ _ _ _ _, _, rfl, d1, _, rfl, DPut.k (k := Sum.inr x) d.go (small_line (by rw [tb_len]; omega)), ?_⟩
      rw [putK_tb _ hi]
      -- self.comes_from.setdefault(answers, {})[name] = True
      have hp1 : ∀ o, upd H d1 o p = some (.ins a.CT dx (fT d1 d2 d3 d4 n)) := fun o => by rw [upd_ne p1]; exact d.ob
      refine ⟨_, rfl, p, a.CT, dx, _, _, rfl, hp1 _, T.clT, T.nT_comes_from, fT_fr _ _ _ _ _, d4, rfl, .inl ⟨_, Rd.of (by rw [upd_ne d14.symm]; exact d.fr)⟩, _, rfl, fun t ht => ?_⟩
      obtain ⟨t1, htn⟩ := upd_none ht
      have tp : t ≠ p := fun z => by rw [z, d.ob] at htn; cases htn
      have t2 : t ≠ d2 := fun z => by rw [z, d.po] at htn; cases htn
      have t3 : t ≠ d3 := fun z => by rw [z, d.pi] at htn; cases htn
      have t4 : t ≠ d4 := fun z => by rw [z, d.fr] at htn; cases htn
      have row1 : ∀ y ∈ T0, L y ≠ d1 ∧ L y ≠ t ∧ L y ≠ d4 := fun y hy => ⟨ne_of (d.row y hy).1 d.go (by intro z; cases z), ne_of_none (d.row y hy).1 htn, ne_of (d.row y hy).1 d.fr (by intro z; cases z)⟩
      -- what both ways lead to
      have go : ∀ (H' : Hp) (dc' : Addr), AddMid a.CT H H' F0 T0 x ans p dx d1 d2 d3 d4 n N L dc' → tDrop (tMeth a.CT "hang" (spTH a) [] E0 (tVar 0) (tCons (tVar 1) tNil)) { nx := fun _ H' => Q .non H', rt := Q } [some (.ref p), some (.str x), some (.str ans)] H' := by
        intro H' dc' m
        obtain ⟨f, mg1, fx, fo⟩ := m.go
        have f2 : F0 d2 := (d.fp d2).mpr (.inr (.inr (.inl rfl)))
        have f3 : F0 d3 := (d.fp d3).mpr (.inr (.inr (.inr (.inl rfl))))
        have pre : PilePre a.CT H' p dx d1 d2 d3 d4 n x (tb (fun x => .int (N x)) T0) (tbN N (fun x => .ref (L x)) T0) :=
          { ob := m.ob, h2 := m.po, h3 := m.pi, v2 := valV_out hi, l2 := by rw [tb_len]; omega, l3 := by rw [tbN_len]; omega, ne := d23 }
        have mx : x ∈ T0 ++ [x] := List.mem_append_right _ (List.mem_singleton.mpr rfl)
        refine ⟨_, rfl, p, dx, _, rfl, m.ob, no_meth _ _ _ _ _ (by decide +kernel), _, rfl, p, x, ans, dx, d1, d2, d3, d4, n, _, _, _, rfl, pre, mg1, (by rw [valV_in mx, fx]), d12, d13, ?_⟩
        rcases k with ⟨rfl, k⟩ | ⟨hne, hnx, hnt, k⟩
        · refine .inl ⟨rfl, fun l hl => ?_⟩
          obtain ⟨r1, r2, c1, c2, c3, c4, cp, cg⟩ := m.fr rfl
          have lg : F0 l ∨ H l = none := (m.kp.none l hl).symm.imp id id
          have ne0 : T0 ++ [x] ≠ [] := by simp
          have lp : l ≠ p := fun z => by rw [z, m.ob] at hl; cases hl
          have cl : dc' ≠ l := ne_of_none r2 hl
          have n1 : ∀ y ∈ T0, N y ≠ n + 1 := fun y hy z => by
            have := (d.row y hy).2
            omega
          have ny : ∀ y ∈ T0, y ≠ x := fun y hy z => hi (z ▸ hy)
          refine k (pileH a.CT H' p dx d1 d2 d3 d4 n x (tb (fun x => .int (N x)) T0) (tbN N (fun x => .ref (L x)) T0) l)
            (fun b => b = p ∨ b = d1 ∨ b = d2 ∨ b = d3 ∨ b = d4 ∨ (T0 ++ [x] ≠ [] ∧ b = dc') ∨ ∃ y ∈ T0 ++ [x], b = (if y = x then l else L y))
            ⟨dx, d1, d2, d3, d4, n + 1, fun y => if y = x then n + 1 else N y, fun y => if y = x then l else L y, dc', ?_⟩ (pile_keeps m.kp fp f2 f3 lg) ?_
          · exact
              { ob := pre.at_p hl
                nd := nd_snoc d.nd hi
                go := by
                  rw [pre.old hl mg1 p1.symm d12 d13]
                  refine congrArg (fun l => some (HO.dK l)) (tb_congr fun y hy => ?_)
                  rcases List.mem_append.mp hy with q | q
                  · exact fo y q
                  · rw [List.mem_singleton.mp q]; exact fx
                po := by
                  rw [pre.at_2 hl, putK_tb _ hi]
                  exact congrArg (fun l => some (HO.dK l)) (tb_congr fun y _ => by split <;> rfl)
                pi := by
                  rw [pile_3, putK_new _ (valN_out n1), tbN_snoc, if_pos rfl, if_pos rfl]
                  rw [tbN_congr (N := N) (M := fun y => if y = x then n + 1 else N y) (f := fun x => V.ref (L x)) (g := fun y => V.ref (if y = x then l else L y)) fun y hy => ⟨by rw [if_neg (ny y hy)], by rw [if_neg (ny y hy)]⟩]
                row := fun y hy => by
                  by_cases q : y = x
                  · rw [if_pos q, if_pos q, q]
                    exact ⟨pre.at_l hl, Int.le_refl _⟩
                  · have hy' : y ∈ T0 := (List.mem_append.mp hy).resolve_right fun z => q (List.mem_singleton.mp z)
                    rw [if_neg q, if_neg q]
                    have hr := m.row y hy'
                    exact ⟨pre.old hl hr (ne_of hr m.ob (by intro z; cases z)) (ne_of hr m.po (by intro z; cases z)) (ne_of hr m.pi (by intro z; cases z)), by have := (d.row y hy').2; omega⟩
                inj := fun y hy z hz e => by
                  by_cases q : y = x
                  · by_cases q2 : z = x
                    · rw [q, q2]
                    · have hz' : z ∈ T0 := (List.mem_append.mp hz).resolve_right fun w => q2 (List.mem_singleton.mp w)
                      rw [if_pos q, if_neg q2] at e
                      exact absurd e.symm (n1 z hz')
                  · have hy' : y ∈ T0 := (List.mem_append.mp hy).resolve_right fun w => q (List.mem_singleton.mp w)
                    by_cases q2 : z = x
                    · rw [if_neg q, if_pos q2] at e
                      exact absurd e (n1 y hy')
                    · have hz' : z ∈ T0 := (List.mem_append.mp hz).resolve_right fun w => q2 (List.mem_singleton.mp w)
                      rw [if_neg q, if_neg q2] at e
                      exact d.inj y hy' z hz' e
                fr := by
                  rw [if_neg ne0]
                  exact pre.old hl r1 p4.symm d24.symm d34.symm
                fc := fun _ => ⟨pre.old hl r2 cp c2 c3, c1, c2, c3, c4⟩
                ne := d.ne
                fp := fun b => Iff.rfl }
          · rintro b (z | z | z | z | z | ⟨_, z⟩ | ⟨y, hy, z⟩)
            · rw [z]; exact .inl fp
            · rw [z]; exact .inl f1
            · rw [z]; exact .inl f2
            · rw [z]; exact .inl f3
            · rw [z]; exact .inl f4
            · rw [z]; exact cg
            · by_cases q : y = x
              · rw [if_pos q] at z
                rw [z]
                exact lg
              · have hy' : y ∈ T0 := (List.mem_append.mp hy).resolve_right fun w => q (List.mem_singleton.mp w)
                rw [if_neg q] at z
                exact .inl ((d.fp b).mpr (.inr (.inr (.inr (.inr (.inr (.inr ⟨y, hy', z⟩)))))))
        · refine .inr ⟨hne, hnx, valV_out hnt, by rw [tb_len]; omega, by rw [tbN_len]; omega, fun H'' n' k2' k3' l a1 a2 a3 a4 a5 a6 a7 a8 => ?_⟩
          refine k H'' ⟨dx, d1, d2, d3, d4, n', f, k2', k3', n + 1, l, [x, ans], a1, a2, a3, a4, a5, a6, a7, by simp, ?_⟩ (m.kp.trans (Grow.refl F0 H) (a8.mono ?_))
          · rw [List.filter_cons_of_pos (by simp), List.filter_cons_of_neg (by simp [hnt, hnx]), List.filter_nil]
          · rintro b (z | z | z)
            · rw [z]; exact fp
            · rw [z]; exact f2
            · rw [z]; exact f3
      have at4 : upd (upd H d1 (.dK (tb (fun y => if y = x then V.str ans else V.str "") (T0 ++ [x])))) t (.dK []) d4 = some (.dK (if T0 = [] then [] else [((Sum.inr "" : Key), V.ref dc)])) := by
        rw [upd_ne t4.symm, upd_ne d14.symm]
        exact d.fr
      refine ⟨_, Sum.inr ans, at4, rfl, small_line (by split <;> simp), fun v hv => ?_, fun hv => ?_⟩
      · have h0 : T0 ≠ [] := fun z => by rw [if_pos z] at hv; cases hv
        have ha : ans = "" := by
          by_cases q : ans = ""
          · exact q
          · rw [if_neg h0, valV_neg (p := ((Sum.inr "" : Key), V.ref dc)) (k := (Sum.inr ans : Key)) (fun z => q (Sum.inr.inj z).symm)] at hv
            cases hv
        rw [if_neg h0, ha, valV_pos (p := ((Sum.inr "" : Key), V.ref dc)) (k := (Sum.inr "" : Key)) rfl] at hv
        have hv := Option.some.inj hv
        subst hv
        obtain ⟨rc, c1, c2, c3, c4⟩ := d.fc h0
        have ct : dc ≠ t := ne_of_none rc htn
        have cp : dc ≠ p := (ne_of d.ob rc (by intro z; cases z)).symm
        refine ⟨_, rfl, dc, _, rfl, DPut.k (k := Sum.inr x) (by rw [upd_ne ct, upd_ne c1]; exact rc) (small_line (by rw [tb_len]; omega)), ?_⟩
        refine go _ dc ?_
        exact
          { ob := by rw [upd_ne cp.symm, upd_ne tp.symm, upd_ne p1]; exact d.ob
            go := ⟨fun y => if y = x then V.str ans else V.str "", by rw [upd_ne c1.symm, upd_ne t1.symm, upd_same], if_pos rfl, fun y hy => if_neg fun z : y = x => hi (z ▸ hy)⟩
            po := by rw [upd_ne c2.symm, upd_ne t2.symm, upd_ne d12.symm]; exact d.po
            pi := by rw [upd_ne c3.symm, upd_ne t3.symm, upd_ne d13.symm]; exact d.pi
            row := fun y hy => by
              obtain ⟨q1, q2, q3⟩ := row1 y hy
              rw [upd_ne (ne_of (d.row y hy).1 rc (by intro z; cases z)), upd_ne q2, upd_ne q1]
              exact (d.row y hy).1
            fr := fun _ => ⟨by rw [upd_ne c4.symm, at4, if_neg h0], by rw [upd_same, putK_tb_same hi], c1, c2, c3, c4, cp, .inl ((d.fp dc).mpr (.inr (.inr (.inr (.inr (.inr (.inl ⟨h0, rfl⟩)))))))⟩
            kp := (((Keeps.refl F0 H).upd (.inl f1)).upd (.inr htn)).upd (.inl ((d.fp dc).mpr (.inr (.inr (.inr (.inr (.inr (.inl ⟨h0, rfl⟩)))))))) }
      · refine ⟨_, rfl, t, _, rfl, DPut.k (k := Sum.inr x) (by rw [upd_ne t4, upd_same]) (by decide), ?_⟩
        refine go _ t ?_
        exact
          { ob := by rw [upd_ne tp.symm, upd_ne p4, upd_ne tp.symm, upd_ne p1]; exact d.ob
            go := ⟨fun y => if y = x then V.str ans else V.str "", by rw [upd_ne t1.symm, upd_ne d14, upd_ne t1.symm, upd_same], if_pos rfl, fun y hy => if_neg fun z : y = x => hi (z ▸ hy)⟩
            po := by rw [upd_ne t2.symm, upd_ne d24, upd_ne t2.symm, upd_ne d12.symm]; exact d.po
            pi := by rw [upd_ne t3.symm, upd_ne d34, upd_ne t3.symm, upd_ne d13.symm]; exact d.pi
            row := fun y hy => by
              obtain ⟨q1, q2, q3⟩ := row1 y hy
              rw [upd_ne q2, upd_ne q3, upd_ne q2, upd_ne q1]
              exact (d.row y hy).1
            fr := fun ha => by
              subst ha
              have h0 : T0 = [] := by
                by_cases q : T0 = []
                · exact q
                · rw [if_neg q, valV_pos (p := ((Sum.inr "" : Key), V.ref dc)) (k := (Sum.inr "" : Key)) rfl] at hv
                  cases hv
              refine ⟨?_, ?_, t1, t2, t3, t4, tp, .inr htn⟩
              · rw [upd_ne t4.symm, upd_same, if_pos h0]
                rfl
              · rw [upd_same, h0]
                rfl
            kp := ((((Keeps.refl F0 H).upd (.inl f1)).upd (.inr htn)).upd (.inl f4)).upd (.inr htn) }
  · obtain ⟨ds, rv, hb⟩ := F.binds1 (ps := ["self", "name", "answers"]) 3 1 (by simp) rfl fun T kV doc pm an cdv ct us its hl h2 => match us, its, hl, h2 with | [_, _, _], [_], _, _ => ⟨_, rfl, rfl⟩
    cases rv
    exact hb
  · exact F.binds1 (ps := ["self", "name", "answers"]) 2 0 (by simp) rfl fun T kV doc pm an cdv ct us its hl h2 => match us, its, hl, h2 with | [_, _], [_], _, _ => ⟨_, rfl, rfl⟩
end
end K24
/-! K24M5: what the methods of Threads do: a name goes; its thread; all threads. -/
namespace K24
open PySem PySem.Spec PyProof.Rows L2

theorem same_upd0 {H H1 : Hp} {p : Addr} {o : HO} (s : Same H H1) (hp : H p = none) : Same H (upd H1 p o) := fun b u e => by
  rw [upd_ne (ne_of_none e hp)]
  exact s b u e
/-- take_out: a name goes -/
def spTT (a : Ads) : Sp := fun vs H Q E => ∃ (p : Addr) (v : V) (T : List Str), vs = [.ref p, v] ∧ ThrRd a.CT H p T ∧ NameOk v ∧ (Out v T → E (.ref a.CN) none H) ∧
  (In v T → ∃ (x : Str) (F : Addr → Prop), v = .str x ∧ x ∈ T ∧ ThrAt a.CT H p F T ∧ T.length ≤ 100 ∧ ∀ (H' : Hp) (F' : Addr → Prop), ThrAt a.CT H' p F' (but x T) → Keeps F H H' → Grow F H F' → Q .non H')
/-- what stands behind the first stores of take_out -/
structure PopMid (C : Addr) (H H' : Hp) (F : Addr → Prop) (T : List Str) (x : Str) (p dx d1 d2 d3 d4 : Addr) (n : Int) (N : Str → Int) (L : Str → Addr) (dc : Addr) : Prop where
  ob : H' p = some (.ins C dx (fT d1 d2 d3 d4 n))
  go : H' d1 = some (.dK (tb (fun _ => .str "") (but x T)))
  po : H' d2 = some (.dK (tb (fun x => .int (N x)) T))
  pi : H' d3 = some (.dK (tbN N (fun x => .ref (L x)) T))
  row : ∀ y ∈ T, H' (L y) = some (.lst [.str y])
  fr : H' d4 = some (.dK (if but x T = [] then [] else [(Sum.inr "", .ref dc)]))
  fc : but x T ≠ [] → H' dc = some (.dK (tb (fun _ => .bl true) (but x T)))
  kp : Keeps F H H'
/-- thread: a name that hangs together with none -/
def spTR (a : Ads) : Sp := fun vs H Q E => ∃ (p : Addr) (v : V) (T : List Str), vs = [.ref p, v] ∧ ThrRd a.CT H p T ∧ NameOk v ∧ (Out v T → E (.ref a.CN) none H) ∧
  (In v T → ∃ x : Str, v = .str x ∧ ThrOne a.CT H p T x ∧ ∀ (H' : Hp) (l : Addr), Same H H' → H l = none → H' l = some (.lst [.str x]) → Q (.ref l) H')
/-- threads: each name alone -/
def spTL (a : Ads) (K : PySem.W.Frag) : Sp := fun vs H Q _ => ∃ (p : Addr) (F : Addr → Prop) (T : List Str), vs = [.ref p] ∧ ThrAt a.CT H p F T ∧ T.length < 64 ∧ (∀ x ∈ T, x.length ≤ 100) ∧
  ∀ (H' : Hp) (l : Addr) (ys : List Str), Same H H' → H l = none → ys.Perm T → sortedS ys = true → Dp K H' (.ref l) (.list (ys.map fun y => .list [.str y])) → Q (.ref l) H'
section
variable {P : Program} {w : World} {K : PySem.W.Frag} {mg : Str → Option Value} {base : Heap} {a : Ads}
theorem ok_TT (T : Txt K mg a) : ∃ fd, FnOk P w K mg base (L2.CX P w) 2 a.fTT fd ["self", "name"] (spTT a) ∧ Binds K fd ["self", "name"] [] := by
  obtain ⟨fd, F⟩ := T.FTT
  obtain ⟨fdS, GS, bS⟩ := ok_TS (P := P) (w := w) (base := base) T
  refine ⟨fd, F.okX scTT (fun vs H Q E h => ?_) (fun cdv A outer s H vs Q E hr h => ?_), F.binds (ps := ["self", "name"]) fun _ _ _ _ _ _ us hl => match us, hl with | [_, _], _ => rfl⟩
  · obtain ⟨q, v, I, rfl, _⟩ := h
    rfl
  · obtain ⟨p, v, T0, rfl, rd, ok, kE, kQ⟩ := h
    have hu := hu_of hr
    refine ⟨_, pss_cons (ps_expr (pe_meth (pv 0) T.clT T.MTS GS hr bS .nil (passes_call (takes_of rfl rfl rfl rfl) (fun _ _ _ _ h => h)) (pa_cons (pv 1) pa_nil)))
      (PSs.nox (pss_cons (ps_set (i := 2) scTT.nd rfl (Or.inl rfl) (pe_dpop1 (pe_fld (pv 0) rfl) (pv 1) ⟨rfl, rfl, rfl, rfl⟩))
      (pss_cons (ps_expr (pe_dpop1 (pe_dget hu (pe_fld (pv 0) rfl) (pv 2) (fun _ _ => rfl)) (pv 1) ⟨rfl, rfl, rfl, rfl⟩))
      (pss_cons (ps_if (pt_cmpR op_eq (pe_callB call_lenD (by rfl) T.m_len PySem.boot_len (pa_cons (pe_dget hu (pe_fld (pv 0) rfl) (pv 2) (fun _ _ => rfl)) pa_nil)) pe_int (nomark _))
        (pss_one (ps_expr (pe_dpop1 (pe_fld (pv 0) rfl) (pv 2) ⟨rfl, rfl, rfl, rfl⟩))) pss_nil)
      (pss_cons (ps_set (i := 3) scTT.nd rfl (Or.inl rfl) (pe_dpop1 (pe_fld (pv 0) rfl) (pe_dget hu (pe_fld (pv 0) rfl) (pv 1) (fun _ _ => rfl)) ⟨rfl, rfl, rfl, rfl⟩))
      (pss_cons (ps_for PassesOwn.never rfl (pi_list (pv 3)) (pg_name (i := 4) scTT.nd rfl (Or.inl rfl)) (pss_one (ps_expr (pe_dpop1 (pe_fld (pv 0) rfl) (pv 4) ⟨rfl, rfl, rfl, rfl⟩))))
      (pss_one (ps_for PassesOwn.never rfl (pi_list (pv 3)) (pg_name (i := 4) scTT.nd rfl (Or.inl rfl)) (pss_one (ps_if (pt_cmp (pc_din hu (pv 4) (pe_fld (pv 0) rfl))) pss_never pss_nil)))))))))), ?_⟩
    obtain ⟨dx0, d10, d20, d30, d40, n0, f0, hp0, h10⟩ := id rd
    refine ⟨_, rfl, p, dx0, _, rfl, hp0, no_meth _ _ _ _ _ (by decide +kernel), _, rfl, p, v, T0, rfl, rd, ok, kE, fun hin => ?_⟩
    obtain ⟨x, F0, rfl, hx, ⟨dx, d1, d2, d3, d4, n, N, L, dc, d⟩, hT, k⟩ := kQ hin
    clear hp0 h10 kE kQ
    obtain ⟨d12, d13, d14, d23, d24, d34⟩ := d.ne
    have h0 : T0 ≠ [] := List.ne_nil_of_mem hx
    obtain ⟨rc, c1, c2, c3, c4⟩ := d.fc h0
    have fp : F0 p := (d.fp p).mpr (.inl rfl)
    have f1 : F0 d1 := (d.fp d1).mpr (.inr (.inl rfl))
    have f2 : F0 d2 := (d.fp d2).mpr (.inr (.inr (.inl rfl)))
    have f3 : F0 d3 := (d.fp d3).mpr (.inr (.inr (.inr (.inl rfl))))
    have f4 : F0 d4 := (d.fp d4).mpr (.inr (.inr (.inr (.inr (.inl rfl)))))
    have fdc : F0 dc := (d.fp dc).mpr (.inr (.inr (.inr (.inr (.inr (.inl ⟨h0, rfl⟩))))))
    have p1 : p ≠ d1 := ne_of d.ob d.go (by intro z; cases z)
    have p2 : p ≠ d2 := ne_of d.ob d.po (by intro z; cases z)
    have p3 : p ≠ d3 := ne_of d.ob d.pi (by intro z; cases z)
    have p4 : p ≠ d4 := ne_of d.ob d.fr (by intro z; cases z)
    have pc : p ≠ dc := ne_of d.ob rc (by intro z; cases z)
    have fr := d.fr
    rw [if_neg h0] at fr
    -- answers = self.goes_to.pop(name)
    refine ⟨_, rfl, p, a.CT, dx, _, _, rfl, d.ob, T.clT, T.nT_goes_to, fT_go _ _ _ _ _, d1, rfl, .inl ⟨_, Rd.of d.go⟩, _, rfl, _, Sum.inr x, _, d.go, rfl, valV_in hx, ?_⟩
    rw [dropK_tb]
    -- self.comes_from[answers].pop(name)
    have va : valV [((Sum.inr "" : Key), V.ref dc)] (Sum.inr "" : Key) = some (.ref dc) := valV_pos rfl
    have rc1 : ∀ o, upd H d1 o dc = some (.dK (tb (fun _ => .bl true) T0)) := fun o => by rw [upd_ne c1]; exact rc
    refine ⟨_, rfl, p, a.CT, dx, _, _, rfl, by rw [upd_ne p1]; exact d.ob, T.clT, T.nT_comes_from, fT_fr _ _ _ _ _, _, rfl, d4, _, rfl, dg (k := Sum.inr "") (by rw [upd_ne d14.symm]; exact fr) va, dc, rfl, .inl ⟨_, Rd.of (rc1 _)⟩, _, rfl, _, Sum.inr x, _, rc1 _, rfl, valV_in hx, ?_⟩
    rw [dropK_tb]
    have hp2 : ∀ o u, upd (upd H d1 o) dc u p = some (.ins a.CT dx (fT d1 d2 d3 d4 n)) := fun o u => by rw [upd_ne pc, upd_ne p1]; exact d.ob
    have h42 : ∀ o u, upd (upd H d1 o) dc u d4 = some (.dK [((Sum.inr "" : Key), V.ref dc)]) := fun o u => by rw [upd_ne c4.symm, upd_ne d14.symm]; exact fr
    -- if len(self.comes_from[answers]) == 0: self.comes_from.pop(answers)
    refine ⟨_, rfl, p, a.CT, dx, _, _, rfl, hp2 _ _, T.clT, T.nT_comes_from, fT_fr _ _ _ _ _, _, rfl, d4, _, rfl, dg (k := Sum.inr "") (h42 _ _) va, dc, _, rfl, upd_same, rfl, _, rfl, ?_⟩
    rw [tb_len]
    have row1 : ∀ y ∈ T0, L y ≠ d1 ∧ L y ≠ dc ∧ L y ≠ d4 ∧ L y ≠ d2 ∧ L y ≠ d3 := fun y hy => ⟨ne_of (d.row y hy).1 d.go (by intro z; cases z), ne_of (d.row y hy).1 rc (by intro z; cases z), ne_of (d.row y hy).1 d.fr (by intro z; cases z), ne_of (d.row y hy).1 d.po (by intro z; cases z), ne_of (d.row y hy).1 d.pi (by intro z; cases z)⟩
    -- what both ways lead to
    have rest : ∀ H' : Hp, PopMid a.CT H H' F0 T0 x p dx d1 d2 d3 d4 n N L dc → ∀ σ : L2.St, σ = [some (.ref p), some (.str x), some (.str ""), none, none] →
        tSeq (tAsg (tDPop1 (tFld K (tVar 0) "piles") (tDGet (tFld K (tVar 0) "pile_of") (tVar 1))) (gName 3)) (tSeq (tFor (iList K (tVar 3)) (gName 4) (tDrop (tDPop1 (tFld K (tVar 0) "pile_of") (tVar 4))))
          (tFor (iList K (tVar 3)) (gName 4) (tIfS (tB (tDIn (tVar 4) (tFld K (tVar 0) "goes_to"))) tNever tNext))) { nx := fun _ H' => Q .non H', rt := Q } σ H' := by
      rintro H' m σ rfl
      -- old = self.piles.pop(self.pile_of[name])
      refine ⟨_, rfl, p, a.CT, dx, _, _, rfl, m.ob, T.clT, T.nT_piles, fT_pi _ _ _ _ _, d3, rfl, .inl ⟨_, Rd.of m.pi⟩, _, rfl, p, a.CT, dx, _, _, rfl, m.ob, T.clT, T.nT_pile_of, fT_po _ _ _ _ _, _, rfl, d2, _, rfl, dg (k := Sum.inr x) m.po (valV_in hx), _, Sum.inl (N x), _, m.pi, rfl, valN_in d.inj hx, ?_⟩
      rw [dropN (fun y hy e => d.inj y hy x hx e)]
      have rx := m.row x hx
      obtain ⟨x1, xc, x4, x2, x3⟩ := row1 x hx
      have r1 : upd H' d3 (.dK (tbN N (fun x => .ref (L x)) (but x T0))) (L x) = some (.lst [.str x]) := by rw [upd_ne x3]; exact rx
      -- for one in old: self.pile_of.pop(one)
      refine ⟨_, rfl, L x, rfl, ⟨_, SqL.of r1⟩, ?_⟩
      refine for_list (K := K) (a := L x) (xs := [.str x]) (fun j σ Hc => ∃ v, σ = [some (.ref p), some (.str x), some (.str ""), some (.ref (L x)), v] ∧
        Hc = if j = 0 then upd H' d3 (.dK (tbN N (fun x => .ref (L x)) (but x T0))) else upd (upd H' d3 (.dK (tbN N (fun x => .ref (L x)) (but x T0)))) d2 (.dK (tb (fun x => .int (N x)) (but x T0)))) ⟨_, rfl, rfl⟩ ?_ ?_ ?_
      · rintro j σ Hc _ ⟨v, rfl, rfl⟩
        refine SqL.of ?_
        split
        · exact r1
        · rw [upd_ne x2]
          exact r1
      · rintro j u σ Hc hj ⟨v, rfl, rfl⟩
        have hj0 : j = 0 := by
          have := (List.getElem?_eq_some_iff.mp hj).1
          simpa using this
        subst hj0
        have hu' : u = .str x := (Option.some.inj hj).symm
        subst hu'
        rw [if_pos rfl]
        refine ⟨_, rfl, p, a.CT, dx, _, _, rfl, by rw [upd_ne p3]; exact m.ob, T.clT, T.nT_pile_of, fT_po _ _ _ _ _, d2, rfl, .inl ⟨_, Rd.of (by rw [upd_ne d23]; exact m.po)⟩, _, rfl, _, Sum.inr x, _, (by rw [upd_ne d23]; exact m.po), rfl, valV_in hx, ?_⟩
        exact ⟨_, rfl, by rw [dropK_tb]; rfl⟩
      · rintro σ Hc ⟨v, rfl, rfl⟩
        rw [if_neg (show ¬ [V.str x].length = 0 from Nat.one_ne_zero)]
        have r2 : upd (upd H' d3 (.dK (tbN N (fun x => .ref (L x)) (but x T0)))) d2 (.dK (tb (fun x => .int (N x)) (but x T0))) (L x) = some (.lst [.str x]) := by rw [upd_ne x2]; exact r1
        -- for one in old: if one in self.goes_to
        refine ⟨_, rfl, L x, rfl, ⟨_, SqL.of r2⟩, ?_⟩
        refine for_list (K := K) (a := L x) (xs := [.str x]) (fun j σ Hc => ∃ v, σ = [some (.ref p), some (.str x), some (.str ""), some (.ref (L x)), v] ∧
          Hc = upd (upd H' d3 (.dK (tbN N (fun x => .ref (L x)) (but x T0)))) d2 (.dK (tb (fun x => .int (N x)) (but x T0)))) ⟨_, rfl, rfl⟩ ?_ ?_ ?_
        · rintro j σ Hc _ ⟨v, rfl, rfl⟩
          exact SqL.of r2
        · rintro j u σ Hc hj ⟨v, rfl, rfl⟩
          have hj0 : j = 0 := by
            have := (List.getElem?_eq_some_iff.mp hj).1
            simpa using this
          subst hj0
          have hu' : u = .str x := (Option.some.inj hj).symm
          subst hu'
          refine ⟨_, rfl, _, rfl, p, a.CT, dx, _, _, rfl, by rw [upd_ne p2, upd_ne p3]; exact m.ob, T.clT, T.nT_goes_to, fT_go _ _ _ _ _, d1, none, rfl, dg (k := Sum.inr x) (by rw [upd_ne d12, upd_ne d13]; exact m.go) (valV_out fun z => (mem_but.mp z).2 rfl), _, rfl, iteF ?_⟩
          exact ⟨_, rfl, rfl⟩
        · rintro σ Hc ⟨v, rfl, rfl⟩
          refine k _ (fun b => b = p ∨ b = d1 ∨ b = d2 ∨ b = d3 ∨ b = d4 ∨ (but x T0 ≠ [] ∧ b = dc) ∨ ∃ y ∈ but x T0, b = L y) ⟨dx, d1, d2, d3, d4, n, N, L, dc, ?_⟩ ((m.kp.upd (.inl f3)).upd (.inl f2)) ?_
          · exact
              { ob := by rw [upd_ne p2, upd_ne p3]; exact m.ob
                nd := but_nodup d.nd
                go := by rw [upd_ne d12, upd_ne d13]; exact m.go
                po := upd_same
                pi := by rw [upd_ne d23.symm, upd_same]
                row := fun y hy => by
                  obtain ⟨hy', _⟩ := mem_but.mp hy
                  obtain ⟨_, _, _, y2, y3⟩ := row1 y hy'
                  rw [upd_ne y2, upd_ne y3]
                  exact ⟨m.row y hy', (d.row y hy').2⟩
                inj := fun y hy z hz => d.inj y (mem_but.mp hy).1 z (mem_but.mp hz).1
                fr := by rw [upd_ne d24.symm, upd_ne d34.symm]; exact m.fr
                fc := fun hh => ⟨by rw [upd_ne c2, upd_ne c3]; exact m.fc hh, c1, c2, c3, c4⟩
                ne := d.ne
                fp := fun b => Iff.rfl }
          · rintro b (z | z | z | z | z | ⟨_, z⟩ | ⟨y, hy, z⟩)
            · rw [z]; exact .inl fp
            · rw [z]; exact .inl f1
            · rw [z]; exact .inl f2
            · rw [z]; exact .inl f3
            · rw [z]; exact .inl f4
            · rw [z]; exact .inl fdc
            · exact .inl ((d.fp b).mpr (.inr (.inr (.inr (.inr (.inr (.inr ⟨y, (mem_but.mp hy).1, z⟩)))))))
    by_cases hl : but x T0 = []
    · have e0 : decide (V.int (((but x T0).length : Nat) : Int) = V.int 0) = true := by
        rw [hl]
        exact decide_eq_true rfl
      rw [e0]
      refine iteT ?_
      refine ⟨_, rfl, p, a.CT, dx, _, _, rfl, hp2 _ _, T.clT, T.nT_comes_from, fT_fr _ _ _ _ _, d4, rfl, .inl ⟨_, Rd.of (h42 _ _)⟩, _, rfl, _, Sum.inr "", _, h42 _ _, rfl, va, ?_⟩
      refine rest _ ?_ _ rfl
      exact
        { ob := by rw [upd_ne p4, hp2]
          go := by rw [upd_ne d14, upd_ne c1.symm, upd_same]
          po := by rw [upd_ne d24, upd_ne c2.symm, upd_ne d12.symm]; exact d.po
          pi := by rw [upd_ne d34, upd_ne c3.symm, upd_ne d13.symm]; exact d.pi
          row := fun y hy => by
            obtain ⟨y1, yc, y4, _, _⟩ := row1 y hy
            rw [upd_ne y4, upd_ne yc, upd_ne y1]
            exact (d.row y hy).1
          fr := by
            rw [upd_same, if_pos hl]
            rfl
          fc := fun hh => absurd hl hh
          kp := (((Keeps.refl F0 H).upd (.inl f1)).upd (.inl fdc)).upd (.inl f4) }
    · have e0 : decide (V.int (((but x T0).length : Nat) : Int) = V.int 0) = false := by
        refine decide_eq_false fun zz => hl ?_
        have z1 : (((but x T0).length : Nat) : Int) = 0 := V.int.inj zz
        exact List.length_eq_zero_iff.mp (by omega)
      rw [e0]
      refine iteF ?_
      refine rest _ ?_ _ rfl
      exact
        { ob := hp2 _ _
          go := by rw [upd_ne c1.symm, upd_same]
          po := by rw [upd_ne c2.symm, upd_ne d12.symm]; exact d.po
          pi := by rw [upd_ne c3.symm, upd_ne d13.symm]; exact d.pi
          row := fun y hy => by
            obtain ⟨y1, yc, _, _, _⟩ := row1 y hy
            rw [upd_ne yc, upd_ne y1]
            exact (d.row y hy).1
          fr := by rw [h42, if_neg hl]
          fc := fun _ => upd_same
          kp := ((Keeps.refl F0 H).upd (.inl f1)).upd (.inl fdc) }

theorem filter_snoc {T : List Str} {ys : List Str} {i : Nat} {y : Str} (h : ys[i]? = some y) : (ys.take (i + 1)).filter (fun y => decide (y ∈ T)) = (ys.take i).filter (fun y => decide (y ∈ T)) ++ (if y ∈ T then [y] else []) := by
  rw [List.take_add_one, h, Option.toList_some, List.filter_append]
  by_cases q : y ∈ T
  · rw [if_pos q, List.filter_cons_of_pos (by simpa using q), List.filter_nil]
  · rw [if_neg q, List.filter_cons_of_neg (by simpa using q), List.filter_nil]
theorem ok_TR (T : Txt K mg a) : ∃ fd, FnOk P w K mg base (L2.CX P w) 2 a.fTR fd ["self", "name"] (spTR a) ∧ Binds K fd ["self", "name"] [] := by
  obtain ⟨fd, F⟩ := T.FTR
  obtain ⟨fdS, GS, bS⟩ := ok_TS (P := P) (w := w) (base := base) T
  refine ⟨fd, F.okX scTR (fun vs H Q E h => ?_) (fun cdv A outer s H vs Q E hr h => ?_), F.binds (ps := ["self", "name"]) fun _ _ _ _ _ _ us hl => match us, hl with | [_, _], _ => rfl⟩
  · obtain ⟨q, v, I, rfl, _⟩ := h
    rfl
  · obtain ⟨p, v, T0, rfl, rd, ok, kE, kQ⟩ := h
    have hu := hu_of hr
    refine ⟨_, pss_cons (ps_expr (pe_meth (pv 0) T.clT T.MTS GS hr bS .nil (passes_call (takes_of rfl rfl rfl rfl) (fun _ _ _ _ h => h)) (pa_cons (pv 1) pa_nil)))
      (PSs.nox (pss_one (ps_ret (pe_callB cr_sortedS (by rfl) T.m_sorted (by decide +kernel) (pa_cons
        (pe_lc (own := [("one", 2)]) (g := gName 2) (tt := tB (tDIn (tVar 2) (tFld K (tVar 0) "goes_to"))) (te := tVar 2) rfl scTR.nd (pi_list (pe_dget hu (pe_fld (pv 0) rfl) (pe_dget hu (pe_fld (pv 0) rfl) (pv 1) (fun _ _ => rfl)) (fun _ _ => rfl)))
          (blkOk_by (own := [("one", 2)]) (N := ["self", "name", "one"]) (sc := defScope sTR) (by decide +kernel)) (fun _ _ _ _ _ => pg_name (i := 2) scTR.nd rfl (Or.inl rfl))
          (fun _ _ _ _ _ => by exact (pts_one (pt_cmp (pc_din hu (pv 2) (pe_fld (pv 0) rfl))))) (fun _ _ _ _ _ => by exact (pv 2))) pa_nil))))), ?_⟩
    obtain ⟨dx0, d10, d20, d30, d40, n0, f0, hp0, h10⟩ := id rd
    refine ⟨_, rfl, p, dx0, _, rfl, hp0, no_meth _ _ _ _ _ (by decide +kernel), _, rfl, p, v, T0, rfl, rd, ok, kE, fun hin => ?_⟩
    obtain ⟨x, rfl, ⟨dx, d1, d2, d3, d4, n, f, k2, k3, m, l, ys, hp, h1, h2, v2, h3, v3, hl, hlen, hf⟩, k⟩ := kQ hin
    refine ⟨_, rfl, p, a.CT, dx, _, _, rfl, hp, T.clT, T.nT_piles, fT_pi _ _ _ _ _, _, rfl, p, a.CT, dx, _, _, rfl, hp, T.clT, T.nT_pile_of, fT_po _ _ _ _ _, _, rfl, d2, _, rfl, dg (k := Sum.inr x) h2 v2, d3, _, rfl, dg (k := Sum.inl m) h3 v3, l, rfl, ⟨_, SqL.of hl⟩, fun D hD => ?_⟩
    have lD : l ≠ D := ne_of_none hl hD
    refine lc_list (K := K) (a := l) (xs := ys.map V.str) (fun i Hc => Hc = upd H D (.lst (((ys.take i).filter (fun y => decide (y ∈ T0))).map V.str))) rfl ?_ ?_ ?_
    · rintro i Hc _ rfl
      exact SqL.of (by rw [upd_ne lD]; exact hl)
    · rintro i u Hc hi rfl
      obtain ⟨y, hy, rfl⟩ := str_get hi
      have pD : p ≠ D := ne_of_none hp hD
      have d1D : d1 ≠ D := ne_of_none h1 hD
      have yl : ((ys.take i).filter (fun y => decide (y ∈ T0))).length ≤ 10 := Nat.le_trans (List.length_filter_le _ _) (Nat.le_trans (List.length_take_le' _ _) hlen)
      have fs := filter_snoc (T := T0) hy
      refine ⟨rfl, _, rfl, _, rfl, p, a.CT, dx, _, _, rfl, by rw [upd_ne pD]; exact hp, T.clT, T.nT_goes_to, fT_go _ _ _ _ _, d1, (if y ∈ T0 then some (f y) else none), rfl, dg (k := Sum.inr y) (by rw [upd_ne d1D]; exact h1) (valV_tb f y T0), _, rfl, ?_⟩
      by_cases q : y ∈ T0
      · rw [if_pos q]
        refine iteT ?_
        refine ⟨_, rfl, _, upd_same, by rw [List.length_map]; exact small_line (by omega), ?_⟩
        rw [fs, if_pos q, upd_upd, List.map_append]
        rfl
      · rw [if_neg q]
        refine iteF ?_
        rw [fs, if_neg q, List.append_nil]
    · rintro Hc rfl
      rw [List.length_map, List.take_length, hf]
      refine ⟨D, [x], rfl, SqL.of upd_same, (by show 1 < 64; decide), fun zs r hz hs hr' => ?_⟩
      have e : zs = [x] := List.perm_singleton.mp hz
      subst e
      exact k _ r (same_upd2 (same_upd hD) hr') (upd_none hr').2 upd_same
theorem dpAll {H : Hp} : ∀ {rs : List Addr} {ys : List Str}, rs.length = ys.length → (∀ (i : Nat) (r : Addr) (y : Str), rs[i]? = some r → ys[i]? = some y → H r = some (.lst [.str y])) → DpAll K H (rs.map V.ref) (ys.map fun y => .list [.str y])
  | [], [], _, _ => .nil
  | r :: rs, y :: ys, hl, h => .cons (.lst (SqL.of (h 0 r y rfl rfl)) (.cons (.str y) .nil)) (dpAll (by simpa using hl) fun i r' y' a b => h (i + 1) r' y' (by simpa using a) (by simpa using b))
  | [], _ :: _, hl, _ => by simp at hl
  | _ :: _, [], hl, _ => by simp at hl
theorem ok_TL (T : Txt K mg a) : ∃ fd, FnOk P w K mg base CX0 3 a.fTL fd ["self"] (spTL a K) ∧ Binds K fd ["self"] [] := by
  obtain ⟨fd, F⟩ := T.FTL
  obtain ⟨fdR, GR, bR⟩ := ok_TR (P := P) (w := w) (base := base) T
  refine ⟨fd, F.ok scTL (fun vs H Q E h => ?_) (fun cdv A outer s H vs Q E hr h => ?_), F.binds (ps := ["self"]) fun _ _ _ _ _ _ us hl => match us, hl with | [_], _ => rfl⟩
  · obtain ⟨p, F0, T0, rfl, _⟩ := h
    rfl
  · obtain ⟨p, F0, T0, rfl, ta, h64, hlen, k⟩ := h
    obtain ⟨dx, d1, d2, d3, d4, n, N, L, dc, d⟩ := id ta
    have hu := hu_of hr
    refine ⟨_, pss_cons (ps_set (i := 1) scTL.nd rfl (Or.inl rfl) (pe_lst pa_nil))
      (pss_cons (ps_set (i := 2) scTL.nd rfl (Or.inl rfl) pe_dnewK)
      (pss_cons (ps_for PassesOwn.never rfl (pi_list (pe_callB (call_sortedD rfl) (by rfl) T.m_sorted (by decide +kernel) (pa_cons (pe_fld (pv 0) rfl) pa_nil))) (pg_name (i := 3) scTL.nd rfl (Or.inl rfl))
        (pss_cons (ps_if (pt_cmp (pc_din hu (pe_dget hu (pe_fld (pv 0) rfl) (pv 3) (fun _ _ => rfl)) (pv 2))) (pss_one ps_continue) pss_nil)
        (pss_cons (ps_dput hu (pv 2) (pe_dget hu (pe_fld (pv 0) rfl) (pv 3) (fun _ _ => rfl)) pe_bl rfl)
        (pss_one (ps_expr (pe_bm PySem.F.plainAttrs_list PySem.F.slot_list_append PySem.F.type_list_append mt_append (pv 1) (pa_cons (pe_meth (pv 0) T.clT T.MTR GR hr bR .nil passL (pa_cons (pv 3) pa_nil)) pa_nil)))))))
      (pss_one (ps_ret (pv 1))))), ?_⟩
    -- found = []; told = {}
    refine ⟨Nat.zero_le _, fun l1 n1 => ?_⟩
    intro l2 n2
    obtain ⟨l21, n2⟩ := upd_none n2
    have s2 : Same H (upd (upd H l1 (.lst [])) l2 (.dK [])) := same_upd0 (same_upd n1) n2
    -- for name in sorted(self.goes_to)
    refine ⟨_, rfl, p, a.CT, dx, _, _, rfl, s2 _ _ d.ob, T.clT, T.nT_goes_to, fT_go _ _ _ _ _, d1, _, T0, rfl, Rd.of (s2 _ _ d.go), tb_keys _ _, h64, fun ys ly hp hs n3 => ?_⟩
    obtain ⟨ly2, n3⟩ := upd_none n3
    obtain ⟨ly1, n3⟩ := upd_none n3
    have hn : ys.Nodup := hp.nodup_iff.mpr d.nd
    refine ⟨ly, rfl, ⟨_, SqL.of upd_same⟩, ?_⟩
    refine for_list (K := K) (a := ly) (xs := ys.map V.str) (fun j σ Hc => ∃ (v : Option V) (rs : List Addr), σ = [some (.ref p), some (.ref l1), some (.ref l2), v] ∧ Same H Hc ∧ Hc l1 = some (.lst (rs.map V.ref)) ∧ rs.length = j ∧
        (∀ (i : Nat) (r : Addr) (y : Str), rs[i]? = some r → ys[i]? = some y → Hc r = some (.lst [.str y])) ∧ Hc l2 = some (.dK (tbN N (fun _ => .bl true) (ys.take j))) ∧ Hc ly = some (.lst (ys.map V.str)))
      ⟨none, [], rfl, same_upd0 s2 n3, by rw [upd_ne ly1.symm, upd_ne l21.symm, upd_same]; rfl, rfl, fun i r y e => by simp at e, by rw [upd_ne ly2.symm, upd_same]; rfl, upd_same⟩
      (fun j σ Hc _ ⟨_, _, _, _, _, _, _, _, r⟩ => SqL.of r) ?_ ?_
    · rintro j u σ Hc hj ⟨v, rs, rfl, sm, g1, gl, gr, g2, gy⟩
      obtain ⟨y, hy, rfl⟩ := str_get hj
      have yT : y ∈ T0 := hp.mem_iff.mp (List.mem_of_getElem? hy)
      have hjl : j < ys.length := (List.getElem?_eq_some_iff.mp hy).1
      have y64 : ys.length < 64 := by rw [hp.length_eq]; exact h64
      have nt : ∀ z ∈ ys.take j, N z ≠ N y := fun z hz e => by
        have hz' : z ∈ T0 := hp.mem_iff.mp (List.mem_of_mem_take hz)
        exact not_mem_take hn hy (d.inj z hz' y yT e ▸ hz)
      have c1 : ∀ H' : Hp, Same H H' → True := fun _ _ => trivial
      -- if self.pile_of[name] in told
      refine ⟨_, rfl, p, a.CT, dx, _, _, rfl, sm _ _ d.ob, T.clT, T.nT_pile_of, fT_po _ _ _ _ _, _, rfl, d2, _, rfl, dg (k := Sum.inr y) (sm _ _ d.po) (valV_in yT), _, rfl, l2, none, rfl, dg (k := Sum.inl (N y)) g2 (valN_out nt), _, rfl, iteF ?_⟩
      -- told[self.pile_of[name]] = True
      refine ⟨_, rfl, _, rfl, p, a.CT, dx, _, _, rfl, sm _ _ d.ob, T.clT, T.nT_pile_of, fT_po _ _ _ _ _, _, rfl, d2, _, rfl, dg (k := Sum.inr y) (sm _ _ d.po) (valV_in yT), l2, _, rfl, DPut.k (k := Sum.inl (N y)) g2 (small_line (by rw [tbN_len]; have := List.length_take_le' j ys; omega)), ?_⟩
      have sm1 := same_upd0 (p := l2) (o := .dK (putK (tbN N (fun _ => .bl true) (ys.take j)) (Sum.inl (N y) : Key) (.bl true))) sm n2
      have g11 : upd Hc l2 (.dK (putK (tbN N (fun _ => .bl true) (ys.take j)) (Sum.inl (N y) : Key) (.bl true))) l1 = some (.lst (rs.map V.ref)) := by rw [upd_ne l21.symm]; exact g1
      have ta1 := ta.same sm1
      -- found.append(self.thread(name))
      refine ⟨_, rfl, .inl ⟨rfl, _, SqL.of g11⟩, _, rfl, p, dx, _, rfl, sm1 _ _ d.ob, no_meth _ _ _ _ _ (by decide +kernel), _, rfl, p, .str y, T0, rfl, ta1.rd, .inr (.inr ⟨y, rfl, hlen y yT⟩), fun ho => absurd yT (ho y rfl), fun _ => ⟨y, rfl, ta1.one yT, fun H3 r sr nr hr3 => ?_⟩⟩
      have sm3 : Same H H3 := sm1.trans sr
      have l1r : l1 ≠ r := ne_of_none g11 nr
      refine ⟨l1, _, _, rfl, rfl, sr _ _ g11, Nat.lt_of_le_of_lt (by rw [List.length_map]; omega) (small_line (n := 64) (by decide)), ?_⟩
      have old : ∀ b o, Hc b = some o → b ≠ l2 → b ≠ l1 → upd H3 l1 (.lst (rs.map V.ref ++ [.ref r])) b = some o := fun b o e q2 q1 => by
        rw [upd_ne q1]
        exact sr _ _ (by rw [upd_ne q2]; exact e)
      refine ⟨_, rs ++ [r], rfl, same_upd0 sm3 n1, by rw [upd_same, List.map_append]; rfl, by rw [List.length_append, gl]; rfl, fun i r' y' e1 e2 => ?_, ?_, ?_⟩
      · by_cases q : i < rs.length
        · rw [List.getElem?_append_left q] at e1
          have hr' := gr i r' y' e1 e2
          refine old _ _ hr' (ne_of hr' g2 (by intro z; cases z)) (ne_of hr' g1 fun z => ?_)
          have z1 : [V.str y'] = rs.map V.ref := by injection z
          cases rs with
          | nil => cases z1
          | cons r0 rs0 => cases z1
        · rw [List.getElem?_append_right (by omega)] at e1
          have hi : i - rs.length < [r].length := (List.getElem?_eq_some_iff.mp e1).1
          have hi0 : i = j := by
            simp at hi
            omega
          subst hi0
          have q0 : i - rs.length = 0 := by omega
          rw [q0] at e1
          have e1 : r = r' := Option.some.inj e1
          subst e1
          rw [hy] at e2
          have e2 := Option.some.inj e2
          subst e2
          rw [upd_ne l1r.symm]
          exact hr3
      · have q : upd Hc l2 (.dK (putK (tbN N (fun _ => .bl true) (ys.take j)) (Sum.inl (N y) : Key) (.bl true))) l2 = some (.dK (tbN N (fun _ => .bl true) (ys.take (j + 1)))) := by
          rw [upd_same, putK_new _ (valN_out nt), List.take_add_one, hy, Option.toList_some, tbN_snoc]
        rw [upd_ne l21]
        exact sr _ _ q
      · exact old _ _ gy ly2 ly1
    · rintro σ Hc ⟨v, rs, rfl, sm, g1, gl, gr, g2, gy⟩
      rw [List.length_map] at gl
      refine ⟨_, rfl, ?_⟩
      exact k _ l1 ys sm n1 hp hs (.lst (SqL.of g1) (dpAll gl gr))
end
end K24
/-! K24L1: the law's draws and names. -/
namespace K24
open PySem PySem.Spec PyProof.Rows L2

theorem int_get {l : List Int} {i : Nat} (h : i < l.length) : (l.map V.int)[i]? = some (.int l[i]) := by
  rw [List.getElem?_map, List.getElem?_eq_getElem h]
  rfl
/-- the draws: some numbers, none below nought -/
def spLD (a : Ads) (K : PySem.W.Frag) : Sp := fun vs H Q _ => ∃ (l0 : Addr) (ns : List Int), vs = [.ref l0, .int 60] ∧ SqL K H l0 (ns.map V.int) ∧ ns.length ≤ 63 ∧
  ∀ (H' : Hp) (l : Addr) (ds : List Int), Same H H' → H l = none → H' l = some (.lst (ds.map V.int)) → ds.length = 60 → (∀ d ∈ ds, 0 ≤ d) → Q (.ref l) H'
/-- a name: a good one -/
def spLN : Sp := fun vs H Q _ => ∃ sh k : Int, vs = [.int sh, .int k] ∧ 0 ≤ sh ∧ 0 ≤ k ∧ k ≤ 100 ∧ ∀ x, Good x → Q (.str x) H
/-- the names to be drawn from -/
def spLP (K : PySem.W.Frag) : Sp := fun vs H Q _ => ∃ (l0 : Addr) (ds : List Int), vs = [.ref l0] ∧ SqL K H l0 (ds.map V.int) ∧ ds.length = 60 ∧ (∀ d ∈ ds, 0 ≤ d) ∧
  ∀ (H' : Hp) (l : Addr) (xs : List Str), Same H H' → H l = none → H' l = some (.lst (xs.map V.str)) → xs ≠ [] → xs.length ≤ 10 → (∀ x ∈ xs, Good x) → Q (.ref l) H'
theorem nm_ext {c : Nat → Nat} {i a : Nat} {R : Nat → Nat → Prop} (h : ∀ t, t < i → R t (c t)) (ha : R i a) : ∃ c', nm c i ++ ⟨#[a]⟩ = nm c' (i + 1) ∧ ∀ t, t < i + 1 → R t (c' t) := by
  refine ⟨fun t => if t < i then c t else a, ?_, fun t ht => ?_⟩
  · have e := nm_succ (fun t => if t < i then c t else a) i
    rw [e, nm_congr (c := fun t => if t < i then c t else a) (d := c) (n := i) fun t ht => if_pos ht]
    simp
  · by_cases q : t < i
    · simp only [if_pos q]; exact h t q
    · have e : t = i := by omega
      simp only [if_neg q]
      rw [e]; exact ha
theorem sign_at {j : Int} (h0 : 0 ≤ j) (h1 : j < 36) : tSigns.cps[j.toNat]? = some (sg j.toNat) := signs_get (by omega)
theorem sign_even {sh : Int} {i : Nat} (h : 0 ≤ sh) : ((sh / 3 + (0 + (i : Int)) * (1 + sh % 7)) % 36).toNat = ((sh / 3 % 36).toNat + i * ((sh % 7).toNat + 1)) % 36 := by
  have e : (0 + (i : Int)) * (1 + sh % 7) = ((i * ((sh % 7).toNat + 1) : Nat) : Int) := by
    have q : ((sh % 7).toNat : Int) = sh % 7 := Int.toNat_of_nonneg (Int.emod_nonneg _ (by decide))
    rw [Int.natCast_mul, Int.natCast_add, q, Int.zero_add, Int.add_comm 1 (sh % 7)]
    rfl
  rw [e]
  generalize i * ((sh % 7).toNat + 1) = z
  omega
section
variable {P : Program} {w : World} {K : PySem.W.Frag} {mg : Str → Option Value} {base : Heap} {a : Ads}
theorem ok_LD (T : Txt K mg a) : ∃ fd, FnOk P w K mg base CX0 1 a.fLD fd ["_law_script", "_law_many"] (spLD a K) ∧ Binds K fd ["_law_script", "_law_many"] [] := by
  obtain ⟨fd, F⟩ := T.FLD
  refine ⟨fd, F.ok scLD (fun vs H Q E h => ?_) (fun cdv A outer s H vs Q E hr h => ?_), F.binds (ps := ["_law_script", "_law_many"]) fun _ _ _ _ _ _ us hl => match us, hl with | [_, _], _ => rfl⟩
  · obtain ⟨l0, ns, rfl, _⟩ := h
    rfl
  · obtain ⟨l0, ns, rfl, hS, hlen, k⟩ := h
    refine ⟨_, pss_cons (ps_set (i := 2) scLD.nd rfl (Or.inl rfl) (pe_lst pa_nil))
      (pss_cons (ps_set (i := 3) scLD.nd rfl (Or.inl rfl) pe_int)
      (pss_cons (ps_for PassesOwn.never rfl (pi_range1 rfl T.m_range (pa_cons (pv 1) pa_nil)) (pg_name (i := 4) scLD.nd rfl (Or.inl rfl))
        (pss_cons (ps_set (i := 5) scLD.nd rfl (Or.inl rfl) pe_int)
        (pss_cons (ps_if (pt_cmpR op_gt (pe_callB call_len_seq (by rfl) T.m_len PySem.boot_len (pa_cons (pv 0) pa_nil)) pe_int (nomark _))
          (pss_one (ps_set (i := 5) scLD.nd rfl (Or.inl rfl) (pe_ix ix_list (pv 0) (pe_op op_mod (pv 4) (pe_callB call_len_seq (by rfl) T.m_len PySem.boot_len (pa_cons (pv 0) pa_nil))) (fun _ _ => rfl)))) pss_nil)
        (pss_cons (ps_set (i := 3) scLD.nd rfl (Or.inl rfl) (pe_op op_mod (pe_op op_add (pe_op op_add (pe_op op_add (pe_op op_mul (pv 3) pe_int) (pv 5)) (pv 4)) pe_int) pe_int))
        (pss_one (ps_expr (pe_bm PySem.F.plainAttrs_list PySem.F.slot_list_append PySem.F.type_list_append mt_append (pv 2) (pa_cons (pe_op op_mod (pe_op op_mul (pv 3) (pv 3)) pe_int) pa_nil))))))))
      (pss_one (ps_ret (pv 2))))), ?_⟩
    refine ⟨Nat.zero_le _, fun l hl => ?_⟩
    have ns0 : ∀ o, SqL K (upd H l o) l0 (ns.map V.int) := fun o => (same_upd hl).seq hS
    refine ⟨_, rfl, 60, rfl, by decide, by decide, for_range (lo := 0) (n := 60) (fun i σ Hc => ∃ (m : Int) (v c : Option V) (ds : List Int), σ = [some (.ref l0), some (.int 60), some (.ref l), some (.int m), v, c] ∧
      Same H Hc ∧ Hc l = some (.lst (ds.map V.int)) ∧ ds.length = i ∧ 0 ≤ m ∧ m < 2147483647 ∧ ∀ d ∈ ds, 0 ≤ d) ⟨7, none, none, [], rfl, same_upd hl, upd_same, rfl, by decide, by decide, fun d hd => by cases hd⟩ ?_ ?_⟩
    · rintro i σ Hc hi ⟨m, v, c, ds, rfl, sm, gl, hd, m0, m1, hz⟩
      -- the two ways of the cell
      have rest : ∀ c : Int, tSeq (tAsg (tOp (rI (fun _ j => 0 < j) fun i j => .int (i % j)) (tOp (rI0 fun i j => .int (i + j)) (tOp (rI0 fun i j => .int (i + j)) (tOp (rI0 fun i j => .int (i + j)) (tOp (rI CMul fun i j => .int (i * j)) (tVar 3) (tC (.int 48271))) (tVar 5)) (tVar 4)) (tC (.int 1))) (tC (.int 2147483647))) (gName 3))
          (tDrop (tBM K "list" rAppend (tVar 2) (tCons (tOp (rI (fun _ j => 0 < j) fun i j => .int (i % j)) (tOp (rI CMul fun i j => .int (i * j)) (tVar 3) (tVar 3)) (tC (.int 2147483629))) tNil)))
          { nx := fun σ Hc => ∃ (m : Int) (v c : Option V) (ds : List Int), σ = [some (.ref l0), some (.int 60), some (.ref l), some (.int m), v, c] ∧ Same H Hc ∧ Hc l = some (.lst (ds.map V.int)) ∧ ds.length = i + 1 ∧ 0 ≤ m ∧ m < 2147483647 ∧ ∀ d ∈ ds, 0 ≤ d,
            rt := fun v H' => Q v H' , bk := fun _ H' => False, ct := fun _ _ => False } [some (.ref l0), some (.int 60), some (.ref l), some (.int m), some (.int (0 + (i : Int))), some (.int c)] Hc := by
        intro c
        refine ⟨_, rfl, _, _, rfl, rfl, .inr ⟨by decide, by decide⟩, _, rfl, _, _, rfl, rfl, _, rfl, _, _, rfl, rfl, _, _, rfl, rfl, _, _, rfl, rfl, (by show (0 : Int) < 2147483647; decide), ?_⟩
        have b0 := Int.emod_nonneg (m * 48271 + c + (0 + (i : Int)) + 1) (show (2147483647 : Int) ≠ 0 by decide)
        have b1 := Int.emod_lt_of_pos (m * 48271 + c + (0 + (i : Int)) + 1) (show (0 : Int) < 2147483647 by decide)
        refine ⟨_, rfl, .inl ⟨rfl, _, SqL.of gl⟩, _, rfl, _, rfl, _, _, rfl, rfl, .inl ⟨by omega, by omega⟩, _, _, rfl, rfl, (by show (0 : Int) < 2147483629; decide), l, _, _, rfl, rfl, gl, Nat.lt_of_le_of_lt (by rw [List.length_map, hd]; exact Nat.le_of_lt hi) (small_line (n := 60) (by decide)), ?_⟩
        refine ⟨_, _, _, ds ++ [_], rfl, fun b u e => by rw [upd_ne (ne_of_none e hl)]; exact sm b u e, by rw [upd_same, List.map_append]; rfl, by rw [List.length_append, hd]; rfl, b0, b1, fun d hd' => ?_⟩
        rcases List.mem_append.mp hd' with q | q
        · exact hz d q
        · rw [List.mem_singleton.mp q]
          exact Int.emod_nonneg _ (by decide)
      refine ⟨_, rfl, l0, _, rfl, .inl (sm.seq hS), _, _, rfl, rfl, _, rfl, ?_⟩
      rw [List.length_map]
      refine ite2 (fun hp => ?_) (fun hp => ?_)
      · have hp := of_decide_eq_true hp
        have hj0 := Int.emod_nonneg (0 + (i : Int)) (show ((ns.length : Nat) : Int) ≠ 0 by omega)
        have hj1 := Int.emod_lt_of_pos (0 + (i : Int)) (show (0 : Int) < ((ns.length : Nat) : Int) by omega)
        have hj : ((0 + (i : Int)) % ((ns.length : Nat) : Int)).toNat < ns.length := by omega
        refine ⟨_, rfl, _, rfl, _, rfl, l0, _, rfl, .inl (sm.seq hS), _, _, rfl, rfl, (by show (0 : Int) < _; rw [List.length_map]; exact hp), l0, _, _, _, rfl, rfl, sm.seq hS, at_of (j := ((0 + (i : Int)) % ((ns.length : Nat) : Int)).toNat) (by rw [List.length_map]; omega) (int_get hj), ?_⟩
        exact rest _
      · exact rest 0
    · rintro σ Hc ⟨m, v, c, ds, rfl, sm, gl, hd, m0, m1, hz⟩
      exact ⟨_, rfl, k Hc l ds sm hl gl hd hz⟩
theorem ok_LN (T : Txt K mg a) : ∃ fd, FnOk P w K mg base CX0 1 a.fLN fd ["_law_shape", "_law_k"] spLN ∧ Binds K fd ["_law_shape", "_law_k"] [] := by
  obtain ⟨fd, F⟩ := T.FLN
  refine ⟨fd, F.ok scLN (fun vs H Q E h => ?_) (fun cdv A outer s H vs Q E hr h => ?_), F.binds (ps := ["_law_shape", "_law_k"]) fun _ _ _ _ _ _ us hl => match us, hl with | [_, _], _ => rfl⟩
  · obtain ⟨sh, k, rfl, _⟩ := h
    rfl
  · obtain ⟨sh, kk, rfl, hs, k0, k1, k⟩ := h
    refine ⟨_, pss_cons (ps_set (i := 2) scLN.nd rfl (Or.inl rfl) pe_str)
      (pss_cons (ps_if (pt_cmpR op_eq (pe_op op_mod (pv 0) pe_int) pe_int (nomark _))
        (pss_one (ps_ret (pe_op op_mul_sign (pe_item_str (pv 2) (pe_op op_mod (pe_op op_add (pe_op op_fdiv (pv 0) pe_int) (pe_op op_fdiv (pv 1) pe_int)) pe_int) (fun _ _ => rfl)) (pe_op op_add pe_int (pe_op op_mod (pv 1) pe_int))))) pss_nil)
      (pss_cons (ps_set (i := 3) scLN.nd rfl (Or.inl rfl) (pe_op op_mod (pe_op op_fdiv (pv 0) pe_int) pe_int))
      (pss_cons (ps_set (i := 4) scLN.nd rfl (Or.inl rfl) pe_str)
      (pss_cons (ps_for PassesOwn.never rfl (pi_range1 rfl T.m_range (pa_cons (pe_op op_add (pe_op op_add (pv 3) pe_int) (pe_op op_mod (pe_op op_fdiv (pv 0) pe_int) (pe_op op_sub pe_int (pv 3)))) pa_nil)) (pg_name (i := 5) scLN.nd rfl (Or.inl rfl))
        (pss_one (ps_if (pt_cmpR op_eq (pv 5) (pv 3) (nomark _))
          (pss_one (ps_set (i := 4) scLN.nd rfl (Or.inl rfl) (pe_op op_add_str (pv 4) (pe_item_str (pv 2) (pe_op op_mod (pe_op op_add (pe_op op_fdiv (pv 0) pe_int) (pe_op op_fdiv (pv 1) pe_int)) pe_int) (fun _ _ => rfl)))))
          (pss_one (ps_if (pt_cmpR op_eq (pv 5) (pe_op op_add (pv 3) pe_int) (nomark _))
            (pss_one (ps_set (i := 4) scLN.nd rfl (Or.inl rfl) (pe_op op_add_str (pv 4) (pe_item_str (pv 2) (pe_op op_mod (pe_op op_add (pe_op op_fdiv (pv 0) pe_int) (pv 1)) pe_int) (fun _ _ => rfl)))))
            (pss_one (ps_set (i := 4) scLN.nd rfl (Or.inl rfl) (pe_op op_add_str (pv 4) (pe_item_str (pv 2) (pe_op op_mod (pe_op op_add (pe_op op_fdiv (pv 0) pe_int) (pe_op op_mul (pv 5) (pe_op op_add pe_int (pe_op op_mod (pv 0) pe_int)))) pe_int) (fun _ _ => rfl)))))))))) 
      (pss_one (ps_ret (pv 4))))))), ?_⟩
    have sl := signs_len
    refine ⟨_, rfl, _, _, rfl, rfl, (by show (0 : Int) < 4; decide), rfl, _, rfl, ?_⟩
    refine ite2 (fun hp => ?_) (fun hp => ?_)
    · have b0 := Int.emod_nonneg (sh / 4 + kk / 20) (show (36 : Int) ≠ 0 by decide)
      have b1 := Int.emod_lt_of_pos (sh / 4 + kk / 20) (show (0 : Int) < 36 by decide)
      refine ⟨_, rfl, _, rfl, _, _, rfl, rfl, (by show (0 : Int) < 4 ∧ (4 : Int) < 1073741824; decide), _, rfl, _, _, rfl, rfl, (by show (0 : Int) < 20 ∧ (20 : Int) < 1073741824; decide), _, _, rfl, rfl, _, _, rfl, rfl, (by show (0 : Int) < 36; decide), _, _, _, rfl, rfl, b0, by omega, (by show _ < ((tSigns.length : Nat) : Int); rw [sl]; omega), sign_at b0 b1, ?_⟩
      refine ⟨_, rfl, _, _, rfl, rfl, (by show (0 : Int) < 20; decide), _, _, rfl, rfl, _, _, rfl, rfl, by omega, by omega, k _ (good_rep (sg_lt _) (by omega) (by omega))⟩
    · have p0 : 0 ≤ sh / 4 % 18 := Int.emod_nonneg _ (by decide)
      have p1 : sh / 4 % 18 < 18 := Int.emod_lt_of_pos _ (by decide)
      have r0 : 0 ≤ sh / 72 % (19 - sh / 4 % 18) := Int.emod_nonneg _ (by omega)
      have r1 : sh / 72 % (19 - sh / 4 % 18) < 19 - sh / 4 % 18 := Int.emod_lt_of_pos _ (by omega)
      refine ⟨_, rfl, _, _, rfl, rfl, (by show (0 : Int) < 4 ∧ (4 : Int) < 1073741824; decide), _, _, rfl, rfl, (by show (0 : Int) < 18; decide), ?_⟩
      refine ⟨_, rfl, _, _, rfl, rfl, _, rfl, _, _, rfl, rfl, (by show (0 : Int) < 72 ∧ (72 : Int) < 1073741824; decide), _, rfl, _, _, rfl, rfl, _, _, rfl, rfl, (by show (0 : Int) < _; omega), _, _, rfl, rfl, _, rfl, (by omega), (by omega), ?_⟩
      refine for_range (lo := 0) (n := (sh / 4 % 18 + 2 + sh / 72 % (19 - sh / 4 % 18)).toNat) (fun i σ Hc => ∃ (c : Nat → Nat) (v : Option V), σ = [some (.int sh), some (.int kk), some (.str tSigns), some (.int (sh / 4 % 18)), some (.str (nm c i)), v] ∧ Hc = H ∧
        ∀ t, t < i → c t < 1000 ∧ (t ≠ (sh / 4 % 18).toNat → t ≠ (sh / 4 % 18).toNat + 1 → c t = sg (((sh / 3 % 36).toNat + t * ((sh % 7).toNat + 1)) % 36))) ⟨fun _ => 0, none, by rw [nm_zero]; rfl, rfl, fun t ht => absurd ht (Nat.not_lt_zero _)⟩ ?_ ?_
      · rintro i σ Hc hi ⟨c, v, rfl, rfl, hc⟩
        have len1 : ∀ x : Nat, (nm c i).length + (⟨#[x]⟩ : Str).length ≤ sizeLine := fun x => by
          rw [nm_len]
          show i + 1 ≤ sizeLine
          exact Nat.le_of_lt (small_line (by omega))
        have fin : ∀ j : Int, (i ≠ (sh / 4 % 18).toNat → i ≠ (sh / 4 % 18).toNat + 1 → j.toNat = ((sh / 3 % 36).toNat + i * ((sh % 7).toNat + 1)) % 36) → ∃ (c' : Nat → Nat) (v : Option V), [some (V.int sh), some (.int kk), some (.str tSigns), some (.int (sh / 4 % 18)), some (.str (nm c i ++ ⟨#[sg j.toNat]⟩)), some (.int (0 + (i : Int)))] = [some (.int sh), some (.int kk), some (.str tSigns), some (.int (sh / 4 % 18)), some (.str (nm c' (i + 1))), v] ∧ Hc = Hc ∧
            ∀ t, t < i + 1 → c' t < 1000 ∧ (t ≠ (sh / 4 % 18).toNat → t ≠ (sh / 4 % 18).toNat + 1 → c' t = sg (((sh / 3 % 36).toNat + t * ((sh % 7).toNat + 1)) % 36)) := fun j hj => by
          obtain ⟨c', e, h'⟩ := nm_ext (c := c) (i := i) (a := sg j.toNat) (R := fun t v => v < 1000 ∧ (t ≠ (sh / 4 % 18).toNat → t ≠ (sh / 4 % 18).toNat + 1 → v = sg (((sh / 3 % 36).toNat + t * ((sh % 7).toNat + 1)) % 36))) hc ⟨sg_lt _, fun q1 q2 => by rw [hj q1 q2]⟩
          exact ⟨c', _, by rw [e], rfl, h'⟩
        refine ⟨_, rfl, _, rfl, rfl, _, rfl, ?_⟩
        refine ite2 (fun h1 => ?_) (fun h1 => ?_)
        · have h1 := V.int.inj (of_decide_eq_true h1)
          have b0 := Int.emod_nonneg (sh / 1368 + kk / 36) (show (36 : Int) ≠ 0 by decide)
          have b1 := Int.emod_lt_of_pos (sh / 1368 + kk / 36) (show (0 : Int) < 36 by decide)
          refine ⟨_, rfl, _, rfl, _, rfl, _, _, rfl, rfl, (by show (0 : Int) < 1368 ∧ (1368 : Int) < 1073741824; decide), _, rfl, _, _, rfl, rfl, (by show (0 : Int) < 36 ∧ (36 : Int) < 1073741824; decide), _, _, rfl, rfl, _, _, rfl, rfl, (by show (0 : Int) < 36; decide), _, _, _, rfl, rfl, b0, by omega, (by show _ < ((tSigns.length : Nat) : Int); rw [sl]; omega), sign_at b0 b1, _, _, rfl, rfl, len1 _, fin _ fun q1 _ => absurd (by omega) q1⟩
        · refine ⟨_, rfl, _, rfl, _, _, rfl, rfl, rfl, _, rfl, ?_⟩
          refine ite2 (fun h2 => ?_) (fun h2 => ?_)
          · have h2 := V.int.inj (of_decide_eq_true h2)
            have b0 := Int.emod_nonneg (sh / 49248 + kk) (show (36 : Int) ≠ 0 by decide)
            have b1 := Int.emod_lt_of_pos (sh / 49248 + kk) (show (0 : Int) < 36 by decide)
            refine ⟨_, rfl, _, rfl, _, rfl, _, _, rfl, rfl, (by show (0 : Int) < 49248 ∧ (49248 : Int) < 1073741824; decide), _, rfl, _, _, rfl, rfl, _, _, rfl, rfl, (by show (0 : Int) < 36; decide), _, _, _, rfl, rfl, b0, by omega, (by show _ < ((tSigns.length : Nat) : Int); rw [sl]; omega), sign_at b0 b1, _, _, rfl, rfl, len1 _, fin _ fun _ q2 => absurd (by omega) q2⟩
          · have b0 := Int.emod_nonneg (sh / 3 + (0 + (i : Int)) * (1 + sh % 7)) (show (36 : Int) ≠ 0 by decide)
            have b1 := Int.emod_lt_of_pos (sh / 3 + (0 + (i : Int)) * (1 + sh % 7)) (show (0 : Int) < 36 by decide)
            refine ⟨_, rfl, _, rfl, _, rfl, _, _, rfl, rfl, (by show (0 : Int) < 3 ∧ (3 : Int) < 1073741824; decide), _, rfl, _, rfl, _, _, rfl, rfl, (by show (0 : Int) < 7; decide), _, _, rfl, rfl, _, _, rfl, rfl, .inl ⟨by omega, by omega⟩, _, _, rfl, rfl, _, _, rfl, rfl, (by show (0 : Int) < 36; decide), _, _, _, rfl, rfl, b0, by omega, (by show _ < ((tSigns.length : Nat) : Int); rw [sl]; omega), sign_at b0 b1, _, _, rfl, rfl, len1 _, fin _ fun _ _ => sign_even hs⟩
      · rintro σ Hc ⟨c, v, rfl, rfl, hc⟩
        exact ⟨_, rfl, k _ (good_nm (p := (sh / 4 % 18).toNat) (y := (sh / 3 % 36).toNat) (m := (sh % 7).toNat) (by omega) (by omega) (by omega) (by omega) (fun t ht q1 q2 => (hc t ht).2 q1 q2) fun t ht => (hc t ht).1)⟩
theorem ok_LP (T : Txt K mg a) : ∃ fd, FnOk P w K mg base CX0 2 a.fLP fd ["_law_draws_here"] (spLP K) ∧ Binds K fd ["_law_draws_here"] [] := by
  obtain ⟨fd, F⟩ := T.FLP
  obtain ⟨fdN, GN, bN⟩ := ok_LN (P := P) (w := w) (base := base) T
  obtain ⟨fdM, FM⟩ := T.FLN
  have kN := FM.kp
  refine ⟨fd, F.ok scLP (fun vs H Q E h => ?_) (fun cdv A outer s H vs Q E hr h => ?_), F.binds (ps := ["_law_draws_here"]) fun _ _ _ _ _ _ us hl => match us, hl with | [_], _ => rfl⟩
  · obtain ⟨l0, ds, rfl, _⟩ := h
    rfl
  · obtain ⟨l0, ds, rfl, hS, hlen, hd, k⟩ := h
    refine ⟨_, pss_cons (ps_set (i := 1) scLP.nd rfl (Or.inl rfl) (pe_op op_add pe_int (pe_op op_mod (pe_ix ix_list (pv 0) pe_int (fun _ _ => rfl)) pe_int)))
      (pss_one (ps_ret (pe_lc (own := [("_law_k", 2)]) (g := gName 2) (tt := tYes) (te := tCall spLN [] E0 (tCons (tOp (rIxL K) (tVar 0) (tC (.int 0))) (tCons (tVar 2) tNil))) rfl scLP.nd (pi_range1 rfl T.m_range (pa_cons (pv 1) pa_nil))
        (blkOk_by (own := [("_law_k", 2)]) (N := ["_law_draws_here", "_law_many", "_law_k"]) (sc := defScope sLP) (by decide +kernel)) (fun _ _ _ _ _ => pg_name (i := 2) scLP.nd rfl (Or.inl rfl))
        (fun _ _ _ _ _ => by exact pts_nil) (fun _ _ _ _ _ => by exact (pe_call GN hr rfl T.gLN kN bN .nil pass0 (pa_cons (pe_ix ix_list (pv 0) pe_int (fun _ _ => rfl)) (pa_cons (pv 2) pa_nil))))))), ?_⟩
    have b0 := Int.emod_nonneg (ds[1]'(by omega)) (show (9 : Int) ≠ 0 by decide)
    have b1 := Int.emod_lt_of_pos (ds[1]'(by omega)) (show (0 : Int) < 9 by decide)
    refine ⟨_, rfl, l0, _, _, _, rfl, rfl, hS, at_of (j := 1) rfl (int_get (by omega)), _, _, rfl, rfl, (by show (0 : Int) < 9; decide), _, _, rfl, rfl, _, rfl, _, rfl, by omega, by omega, fun D hD => ?_⟩
    have ns : ∀ o, SqL K (upd H D o) l0 (ds.map V.int) := fun o => (same_upd hD).seq hS
    refine lc_range (lo := 0) (n := (2 + (ds[1]'(by omega)) % 9).toNat) (fun i Hc => ∃ xs : List Str, Hc = upd H D (.lst (xs.map V.str)) ∧ xs.length = i ∧ ∀ x ∈ xs, Good x) ⟨[], rfl, rfl, fun x hx => by cases hx⟩ ?_ ?_
    · rintro i Hc hi ⟨xs, rfl, hx, hg⟩
      refine ⟨rfl, _, rfl, l0, _, _, _, rfl, rfl, ns _, at_of (j := 0) rfl (int_get (by omega)), _, rfl, _, _, rfl, hd _ (List.getElem_mem _), by omega, by omega, fun x gx => ?_⟩
      refine ⟨_, upd_same, by rw [List.length_map]; exact small_line (by omega), xs ++ [x], ?_, by rw [List.length_append, hx]; rfl, fun y hy => ?_⟩
      · rw [upd_upd, List.map_append]
        rfl
      · rcases List.mem_append.mp hy with q | q
        · exact hg y q
        · rw [List.mem_singleton.mp q]
          exact gx
    · rintro Hc ⟨xs, rfl, hx, hg⟩
      exact k _ D xs (same_upd hD) hD upd_same (fun z => by rw [z] at hx; simp at hx; omega) (by omega) hg
end
end K24
/-! K24L2: what the law asks of a name: the answer that is due. -/
namespace K24
open PySem PySem.Spec PyProof.Rows L2

/-- the answer that is due -/
def spLU : Sp := fun vs H Q _ => ∃ (c : Int) (x : Str), vs = [.int c, .str x] ∧ 0 ≤ c ∧ c ≤ 6 ∧
  (c = 0 ∨ c = 1 ∨ c = 4 ∨ c = 5 → ∀ H' : Hp, Same H H' → Q .non H') ∧
  (c = 2 → ∀ (H' : Hp) (l : Addr), Same H H' → H l = none → H' l = some (.lst [.str x]) → Q (.ref l) H') ∧
  (c = 3 → ∀ H' : Hp, Same H H' → Q (.int 0) H') ∧
  (c = 6 → ∀ (H' : Hp) (l : Addr) (ys : List Str), Same H H' → H l = none → H' l = some (.lst (ys.map V.str)) → ys.Perm (wl x) → sortedS ys = true → Q (.ref l) H')
theorem eqB {i j : Int} (h : i = j) : decide (V.int i = V.int j) = true := decide_eq_true (by rw [h])
theorem neB {i j : Int} (h : i ≠ j) : decide (V.int i = V.int j) = false := decide_eq_false fun e => h (V.int.inj e)
theorem in2 {c : Int} : inV (.int c) [.int 0, .int 4] = decide (c = 0 ∨ c = 4) := by
  simp only [inV, List.any_cons, List.any_nil, eqV, Bool.or_false]
  rw [Bool.eq_iff_iff]
  simp only [Bool.or_eq_true, beq_iff_eq, decide_eq_true_eq]
  omega
theorem in2b {c : Int} : inV (.int c) [.int 1, .int 5] = decide (c = 1 ∨ c = 5) := by
  simp only [inV, List.any_cons, List.any_nil, eqV, Bool.or_false]
  rw [Bool.eq_iff_iff]
  simp only [Bool.or_eq_true, beq_iff_eq, decide_eq_true_eq]
  omega
theorem in4 {c : Int} : inV (.int c) [.int 0, .int 1, .int 4, .int 5] = decide (c = 0 ∨ c = 1 ∨ c = 4 ∨ c = 5) := by
  simp only [inV, List.any_cons, List.any_nil, eqV, Bool.or_false]
  rw [Bool.eq_iff_iff]
  simp only [Bool.or_eq_true, beq_iff_eq, decide_eq_true_eq]
  omega
theorem one_line : 1 ≤ sizeLine := Nat.le_of_lt (small_line (n := 1) (by decide))
section
variable {P : Program} {w : World} {K : PySem.W.Frag} {mg : Str → Option Value} {base : Heap} {a : Ads}
theorem ok_LU (T : Txt K mg a) : ∃ fd, FnOk P w K mg base CX0 1 a.fLU fd ["_law_call", "_law_name"] spLU ∧ Binds K fd ["_law_call", "_law_name"] [] := by
  obtain ⟨fd, F⟩ := T.FLU
  refine ⟨fd, F.ok scLU (fun vs H Q E h => ?_) (fun cdv A outer s H vs Q E hr h => ?_), F.binds (ps := ["_law_call", "_law_name"]) fun _ _ _ _ _ _ us hl => match us, hl with | [_, _], _ => rfl⟩
  · obtain ⟨c, x, rfl, _⟩ := h
    rfl
  · obtain ⟨c, x, rfl, c0, c6, kN, k2, k3, k6⟩ := h
    refine ⟨_, pss_cons (ps_if (pt_cmpR op_in_seq (pv 0) (pe_lst (pa_cons pe_int (pa_cons pe_int (pa_cons pe_int (pa_cons pe_int pa_nil))))) (by rfl)) (pss_one (ps_ret pe_non)) pss_nil)
      (pss_cons (ps_if (pt_cmpR op_eq (pv 0) pe_int (nomark _)) (pss_one (ps_ret (pe_lst (pa_cons (pv 1) pa_nil)))) pss_nil)
      (pss_cons (ps_if (pt_cmpR op_eq (pv 0) pe_int (nomark _)) (pss_one (ps_ret pe_int)) pss_nil)
      (pss_one (ps_ret (pe_callB cr_sortedS (by rfl) T.m_sorted (by decide +kernel) (pa_cons (pe_op op_cat (pe_lst (pa_cons (pv 1) pa_nil)) (pe_op op_rep (pe_lst (pa_cons pe_str pa_nil)) (pe_callTy call_int1 (by rfl) T.m_int (by decide +kernel) (pa_cons (pe_cmpR op_ne (pv 1) pe_str (nomark _)) pa_nil)))) pa_nil)))))), ?_⟩
    refine ⟨_, rfl, (by decide), fun l1 n1 => ⟨l1, _, rfl, .inl (SqL.of upd_same), rfl, rfl, _, rfl, ?_⟩⟩
    have s1 : Same H (upd H l1 (.lst [.int 0, .int 1, .int 4, .int 5])) := same_upd n1
    have e4 := in4 (c := c)
    refine ite2 (fun h1 => ?_) (fun h1 => ?_)
    · have h1 : inV (.int c) [.int 0, .int 1, .int 4, .int 5] = true := h1
      rw [e4] at h1
      exact kN (of_decide_eq_true h1) _ s1
    · have h1 : ¬ inV (.int c) [.int 0, .int 1, .int 4, .int 5] = true := h1
      rw [e4, decide_eq_true_eq] at h1
      refine ⟨_, rfl, rfl, _, rfl, ?_⟩
      refine ite2 (fun h2 => ?_) (fun h2 => ?_)
      · have h2 := V.int.inj (of_decide_eq_true h2)
        refine ⟨_, rfl, one_line, fun l2 n2 => ?_⟩
        exact k2 h2 _ l2 (same_upd2 s1 n2) (upd_none n2).2 upd_same
      · have h2 : ¬ c = 2 := fun z => h2 (decide_eq_true (by rw [z]))
        refine ⟨_, rfl, rfl, _, rfl, ?_⟩
        refine ite2 (fun h3 => ?_) (fun h3 => ?_)
        · have h3 := V.int.inj (of_decide_eq_true h3)
          exact k3 h3 _ s1
        · have h3 : ¬ c = 3 := fun z => h3 (decide_eq_true (by rw [z]))
          have h6 : c = 6 := by omega
          refine ⟨_, rfl, one_line, fun l2 n2 => ⟨(by decide), fun l3 n3 => ⟨_, rfl, rfl, .inr ⟨_, rfl, ?_⟩⟩⟩⟩
          have hb : ((if (!decide (V.str x = V.str (("rent" : String) : Str))) = true then (1 : Int) else 0)).toNat = if x = tR then 0 else 1 := by
            by_cases q : x = tR
            · rw [q, if_pos rfl]
              rw [show decide (V.str tR = V.str (("rent" : String) : Str)) = true from decide_eq_true rfl]
              rfl
            · rw [if_neg q, show decide (V.str x = V.str (("rent" : String) : Str)) = false from decide_eq_false fun z => q (V.str.inj z)]
              rfl
          have hi : (0 : Int) ≤ (if (!decide (V.str x = V.str (("rent" : String) : Str))) = true then (1 : Int) else 0) ∧ (if (!decide (V.str x = V.str (("rent" : String) : Str))) = true then (1 : Int) else 0) ≤ 1 := by split <;> decide
          refine ⟨_, _, _, rfl, rfl, upd_same, by omega, by omega, ?_, fun l4 n4 => ?_⟩
          · rw [hb]; split <;> decide
          · have n3' := upd_none n3
            have n4' := upd_none n4
            have n4'' := upd_none n4'.2
            rw [hb]
            refine ⟨_, _, [.str x], _, rfl, rfl, (upd_ne n4''.1.symm).trans ((upd_ne n3'.1.symm).trans upd_same), upd_same, ?_, fun l5 n5 => ?_⟩
            · split
              · exact Nat.le_of_lt (small_line (n := 1) (by decide))
              · exact Nat.le_of_lt (small_line (n := 2) (by decide))
            · refine ⟨l5, wl x, rfl, SqL.of (upd_same.trans ?_), Nat.lt_of_le_of_lt (wl_len x) (by decide), fun ys l6 hp hs n6 => ?_⟩
              · unfold wl
                split <;> rfl
              · exact k6 h6 _ l6 ys (same_upd2 (same_upd2 (same_upd2 (same_upd2 (same_upd2 s1 n2) n3) n4) n5) n6) (s1.trans (same_upd2 (same_upd2 (same_upd2 (same_upd n2) n3) n4) n5) |> fun z => by
                  by_cases q : H l6 = none
                  · exact q
                  · obtain ⟨o, e⟩ := Option.ne_none_iff_exists'.mp q
                    rw [z _ _ e] at n6
                    cases n6) upd_same hp hs
end
end K24
/-! K24L3: a call by its number. -/
namespace K24
open PySem PySem.Spec PyProof.Rows L2

/-- Threads at p of the names T, Index at q of the names I, apart -/
def PairAt (a : Ads) (H : Hp) (p q : Addr) (G : Addr → Prop) (T I : List Str) : Prop := ∃ FT FI : Addr → Prop, ThrAt a.CT H p FT T ∧ IdxAt a.CI H q FI I ∧ (∀ b, FT b → FI b → False) ∧ ∀ b, G b ↔ FT b ∨ FI b
section
variable {a : Ads} {H H' : Hp} {p q : Addr} {G : Addr → Prop} {T I : List Str}
theorem keeps_at {F F2 : Addr → Prop} (k : Keeps F H H') (l : Lives F2 H) (d : ∀ b, F b → F2 b → False) : ∀ b, F2 b → H' b = H b := fun b hb => by
  obtain ⟨o, e⟩ := l b hb
  rw [e]
  exact k b o e fun z => d b z hb
theorem PairAt.thr {FT FI FT' : Addr → Prop} {T' : List Str} (ht : ThrAt a.CT H p FT T) (hi : IdxAt a.CI H q FI I) (d : ∀ b, FT b → FI b → False) (hg : ∀ b, G b ↔ FT b ∨ FI b) (h' : ThrAt a.CT H' p FT' T') (k : Keeps FT H H') (g : Grow FT H FT') :
    ∃ G' : Addr → Prop, PairAt a H' p q G' T' I ∧ Keeps G H H' ∧ Grow G H G' := by
  refine ⟨fun b => FT' b ∨ FI b, ⟨FT', FI, h', hi.keep (keeps_at k hi.lives d), fun b z1 z2 => ?_, fun b => Iff.rfl⟩, k.mono fun b z => (hg b).mpr (.inl z), fun b z => ?_⟩
  · obtain ⟨o, e⟩ := hi.lives b z2
    rcases g b z1 with y | y
    · exact d b y z2
    · rw [e] at y; cases y
  · rcases z with z | z
    · rcases g b z with y | y
      · exact .inl ((hg b).mpr (.inl y))
      · exact .inr y
    · exact .inl ((hg b).mpr (.inr z))
theorem PairAt.idx {FT FI FI' : Addr → Prop} {I' : List Str} (ht : ThrAt a.CT H p FT T) (hi : IdxAt a.CI H q FI I) (d : ∀ b, FT b → FI b → False) (hg : ∀ b, G b ↔ FT b ∨ FI b) (h' : IdxAt a.CI H' q FI' I') (k : Keeps FI H H') (g : Grow FI H FI') :
    ∃ G' : Addr → Prop, PairAt a H' p q G' T I' ∧ Keeps G H H' ∧ Grow G H G' := by
  refine ⟨fun b => FT b ∨ FI' b, ⟨FT, FI', ht.keep (keeps_at k ht.lives fun b z1 z2 => d b z2 z1), h', fun b z1 z2 => ?_, fun b => Iff.rfl⟩, k.mono fun b z => (hg b).mpr (.inr z), fun b z => ?_⟩
  · obtain ⟨o, e⟩ := ht.lives b z1
    rcases g b z2 with y | y
    · exact d b z1 y
    · rw [e] at y; cases y
  · rcases z with z | z
    · exact .inl ((hg b).mpr (.inl z))
    · rcases g b z with y | y
      · exact .inl ((hg b).mpr (.inr y))
      · exact .inr y
theorem PairAt.same (h : PairAt a H p q G T I) (s : Same H H') : PairAt a H' p q G T I := by
  obtain ⟨FT, FI, ht, hi, d, hg⟩ := h
  exact ⟨FT, FI, ht.same s, hi.same s, d, hg⟩
theorem PairAt.lives (h : PairAt a H p q G T I) : Lives G H := fun b hb => by
  obtain ⟨FT, FI, ht, hi, d, hg⟩ := h
  rcases (hg b).mp hb with z | z
  · exact ht.lives b z
  · exact hi.lives b z
end
/-- a refusal is due -/
def RefC (c : Int) (v : V) (T I : List Str) : Prop := (c = 0 ∧ ∃ x, v = .str x ∧ x ∈ T ∧ x.length ≤ 100) ∨ (1 ≤ c ∧ c ≤ 3 ∧ NameOk v ∧ Out v T) ∨ (c = 4 ∧ ∃ x, v = .str x ∧ x ∈ I ∧ x.length ≤ 100) ∨ (5 ≤ c ∧ c ≤ 6 ∧ NameOk v ∧ Out v I)
/-- a call: refused; or done -/
def spLC (a : Ads) : Sp := fun vs H Q E => ∃ (c : Int) (p q : Addr) (v : V) (bad : Bool) (T I : List Str), vs = [.int c, .ref p, .ref q, v, .bl bad] ∧
  ((bad = true ∧ ThrRd a.CT H p T ∧ IdxRd a.CI H q I ∧ RefC c v T I ∧ ∀ H' : Hp, Same H H' → E (.ref a.CN) none H') ∨
   (bad = false ∧ ∃ (x : Str) (G : Addr → Prop), v = .str x ∧ PairAt a H p q G T I ∧ 0 ≤ c ∧ c ≤ 6 ∧ x.length ≤ 100 ∧ T.length ≤ 100 ∧ I.length ≤ 100 ∧ ("" : Str) ∉ T ∧
    (c = 0 → x ∉ T ∧ ∀ (H' : Hp) (G' : Addr → Prop), PairAt a H' p q G' (T ++ [x]) I → Keeps G H H' → Grow G H G' → Q .non H') ∧
    (c = 1 → x ∈ T ∧ ∀ (H' : Hp) (G' : Addr → Prop), PairAt a H' p q G' (but x T) I → Keeps G H H' → Grow G H G' → Q .non H') ∧
    (c = 2 → x ∈ T ∧ ∀ (H' : Hp) (l : Addr), Same H H' → H l = none → H' l = some (.lst [.str x]) → Q (.ref l) H') ∧
    (c = 3 → x ∈ T ∧ ∀ H' : Hp, Same H H' → Q (.int 0) H') ∧
    (c = 4 → x ∉ I ∧ ∀ (H' : Hp) (G' : Addr → Prop), PairAt a H' p q G' T (I ++ [x]) → Keeps G H H' → Grow G H G' → Q .non H') ∧
    (c = 5 → x ∈ I ∧ ∀ (H' : Hp) (G' : Addr → Prop), PairAt a H' p q G' T (but x I) → Keeps G H H' → Grow G H G' → Q .non H') ∧
    (c = 6 → x ∈ I ∧ ∀ (H' : Hp) (l : Addr) (ys : List Str), Same H H' → H l = none → H' l = some (.lst (ys.map V.str)) → ys.Perm (wl x) → sortedS ys = true → Q (.ref l) H')))
section
variable {P : Program} {w : World} {K : PySem.W.Frag} {mg : Str → Option Value} {base : Heap} {a : Ads}
theorem ok_LC (T : Txt K mg a) : ∃ fd, FnOk P w K mg base (L2.CX P w) 4 a.fLC fd ["_law_call", "_law_threads", "_law_index", "_law_name", "_law_bad"] (spLC a) ∧ Binds K fd ["_law_call", "_law_threads", "_law_index", "_law_name", "_law_bad"] [] := by
  obtain ⟨fd, F⟩ := T.FLC
  obtain ⟨fdA, GA, bA, dsA, vA, bA2⟩ := ok_TA (P := P) (w := w) (base := base) T
  have GA := GA.mono (k := 3) (by decide)
  obtain ⟨fdT, GT, bT⟩ := ok_TT (P := P) (w := w) (base := base) T
  obtain ⟨fdR, GR, bR⟩ := ok_TR (P := P) (w := w) (base := base) T
  obtain ⟨fdD, GD, bD⟩ := ok_TD (P := P) (w := w) (base := base) T
  obtain ⟨fdIA, GIA, bIA⟩ := ok_IA (P := P) (w := w) (base := base) T
  obtain ⟨fdIT, GIT, bIT⟩ := ok_IT (P := P) (w := w) (base := base) T
  obtain ⟨fdIW, GIW, bIW⟩ := ok_IW (P := P) (w := w) (base := base) T
  have GT := GT.mono (k := 3) (by decide)
  have GR := GR.mono (k := 3) (by decide)
  have GD := GD.mono (k := 3) (by decide)
  have GIA := GIA.mono (k := 3) (by decide)
  have GIT := GIT.mono (k := 3) (by decide)
  have GIW := GIW.mono (k := 3) (by decide)
  refine ⟨fd, F.okX scLC (fun vs H Q E h => ?_) (fun cdv A outer s H vs Q E hr h => ?_), F.binds (ps := ["_law_call", "_law_threads", "_law_index", "_law_name", "_law_bad"]) fun _ _ _ _ _ _ us hl => match us, hl with | [_, _, _, _, _], _ => rfl⟩
  · obtain ⟨c, p, q, v, bad, T0, I0, rfl, _⟩ := h
    rfl
  · obtain ⟨c, p, q, v, bad, T0, I0, rfl, h⟩ := h
    refine ⟨_, pss_cons (ps_if (PW.pt (pw_and (pt_cmpR op_eq (pv 0) pe_int (nomark _)) (pw_and1 (pt_val (pv 4))))) (pss_one (ps_ret (pe_meth (pv 1) T.clT T.MTA GA hr bA .nil (passes_call (takes_of rfl rfl rfl rfl) (fun _ _ _ _ h => h)) (pa_cons (pv 3) (pa_cons pe_str pa_nil))))) pss_nil)
      (pss_cons (ps_if (PW.pt (pw_and (pt_cmpR op_eq (pv 0) pe_int (nomark _)) (pw_and1 (pt_val (pv 4))))) (pss_one (ps_ret (pe_meth (pv 2) T.clI T.MIA GIA hr bIA .nil (passes_call (takes_of rfl rfl rfl rfl) (fun _ _ _ _ h => h)) (pa_cons (pv 3) (pa_cons (pe_lst (pa_cons pe_str pa_nil)) pa_nil))))) pss_nil)
      (pss_cons (ps_if (pt_cmpR op_eq (pv 0) pe_int (nomark _)) (pss_one (ps_ret (pe_meth (pv 1) T.clT T.MTA GA hr bA2 vA (passes_call (takes_of rfl rfl rfl rfl) (fun _ _ _ _ h => h)) (pa_cons (pv 3) pa_nil)))) pss_nil)
      (pss_cons (ps_if (pt_cmpR op_eq (pv 0) pe_int (nomark _)) (pss_one (ps_ret (pe_meth (pv 1) T.clT T.MTT GT hr bT .nil (passes_call (takes_of rfl rfl rfl rfl) (fun _ _ _ _ h => h)) (pa_cons (pv 3) pa_nil)))) pss_nil)
      (pss_cons (ps_if (pt_cmpR op_eq (pv 0) pe_int (nomark _)) (pss_one (ps_ret (pe_meth (pv 1) T.clT T.MTR GR hr bR .nil (passes_call (takes_of rfl rfl rfl rfl) (fun _ _ _ _ h => h)) (pa_cons (pv 3) pa_nil)))) pss_nil)
      (pss_cons (ps_if (pt_cmpR op_eq (pv 0) pe_int (nomark _)) (pss_one (ps_ret (pe_meth (pv 1) T.clT T.MTD GD hr bD .nil (passes_call (takes_of rfl rfl rfl rfl) (fun _ _ _ _ h => h)) (pa_cons (pv 3) pa_nil)))) pss_nil)
      (pss_cons (ps_if (pt_cmpR op_eq (pv 0) pe_int (nomark _)) (pss_one (ps_ret (pe_meth (pv 2) T.clI T.MIA GIA hr bIA .nil (passes_call (takes_of rfl rfl rfl rfl) (fun _ _ _ _ h => h)) (pa_cons (pv 3) (pa_cons (pe_lst (pa_cons (pv 3) (pa_cons pe_str pa_nil))) pa_nil))))) pss_nil)
      (pss_cons (ps_if (pt_cmpR op_eq (pv 0) pe_int (nomark _)) (pss_one (ps_ret (pe_meth (pv 2) T.clI T.MIT GIT hr bIT .nil (passes_call (takes_of rfl rfl rfl rfl) (fun _ _ _ _ h => h)) (pa_cons (pv 3) pa_nil)))) pss_nil)
      (pss_one (ps_ret (pe_meth (pv 2) T.clI T.MIW GIW hr bIW .nil (passes_call (takes_of rfl rfl rfl rfl) (fun _ _ _ _ h => h)) (pa_cons (pv 3) pa_nil))))))))))), ?_⟩
    have toE : ∀ {i j : Int} {t u : Prop}, (i = j → t) → (i ≠ j → u) → if decide (V.int i = V.int j) = true then t else u := fun h1 h2 => ite2 (fun z => h1 (V.int.inj (of_decide_eq_true z))) (fun z => h2 fun e => z (decide_eq_true (by rw [e])))
    rcases h with ⟨rfl, rdT, rdI, hc, kE⟩ | ⟨rfl, x, G, rfl, pr, c0, c6, hx, hT, hI, hn, k0, k1, k2, k3, k4, k5, k6⟩
    · obtain ⟨dx, d1, d2, d3, d4, n, f, hp, _⟩ := id rdT
      obtain ⟨dy, e1, e2, g, hq, _⟩ := id rdI
      refine ⟨_, rfl, rfl, _, rfl, toE (fun h0 => ⟨_, rfl, _, rfl, iteT ?_⟩) (fun h0 => iteF ?_)⟩
      · rcases hc with ⟨_, x, rfl, hi, hl⟩ | ⟨z, _⟩ | ⟨z, _⟩ | ⟨z, _⟩
        · exact ⟨_, rfl, p, dx, _, rfl, hp, no_meth _ _ _ _ _ (by decide +kernel), _, rfl, p, x, _, T0, rfl, rdT, hl, fun _ => kE H (fun _ _ e => e), fun z => absurd hi z⟩
        · omega
        · omega
        · omega
      · refine ⟨_, rfl, rfl, _, rfl, toE (fun h4 => ⟨_, rfl, _, rfl, iteT ?_⟩) (fun h4 => iteF ?_)⟩
        · rcases hc with ⟨z, _⟩ | ⟨z, z2, _⟩ | ⟨_, x, rfl, hi, hl⟩ | ⟨z, _⟩
          · omega
          · omega
          · refine ⟨_, rfl, q, dy, _, rfl, hq, fI_no _ _ (by decide +kernel) (by decide +kernel), _, rfl, one_line, fun l hl' => ?_⟩
            exact ⟨q, x, _, I0, rfl, rdI.same (same_upd hl'), hl, fun _ => kE _ (same_upd hl'), fun z => absurd hi z⟩
          · omega
        · refine ⟨_, rfl, rfl, _, rfl, toE (fun z => absurd z h0) (fun _ => ?_)⟩
          refine ⟨_, rfl, rfl, _, rfl, toE (fun h1 => ?_) (fun h1 => ?_)⟩
          · rcases hc with ⟨z, _⟩ | ⟨_, _, ok, ho⟩ | ⟨z, _⟩ | ⟨z, _⟩
            · omega
            · exact ⟨_, rfl, p, dx, _, rfl, hp, no_meth _ _ _ _ _ (by decide +kernel), _, rfl, p, v, T0, rfl, rdT, ok, fun _ => kE H (fun _ _ e => e), fun ⟨y, e, hy⟩ => absurd hy (ho y e)⟩
            · omega
            · omega
          · refine ⟨_, rfl, rfl, _, rfl, toE (fun h2 => ?_) (fun h2 => ?_)⟩
            · rcases hc with ⟨z, _⟩ | ⟨_, _, ok, ho⟩ | ⟨z, _⟩ | ⟨z, _⟩
              · omega
              · exact ⟨_, rfl, p, dx, _, rfl, hp, no_meth _ _ _ _ _ (by decide +kernel), _, rfl, p, v, T0, rfl, rdT, ok, fun _ => kE H (fun _ _ e => e), fun ⟨y, e, hy⟩ => absurd hy (ho y e)⟩
              · omega
              · omega
            · refine ⟨_, rfl, rfl, _, rfl, toE (fun h3 => ?_) (fun h3 => ?_)⟩
              · rcases hc with ⟨z, _⟩ | ⟨_, _, ok, ho⟩ | ⟨z, _⟩ | ⟨z, _⟩
                · omega
                · exact ⟨_, rfl, p, dx, _, rfl, hp, no_meth _ _ _ _ _ (by decide +kernel), _, rfl, p, v, T0, rfl, rdT, ok, fun _ => kE H (fun _ _ e => e), fun ⟨y, e, hy⟩ => absurd hy (ho y e)⟩
                · omega
                · omega
              · refine ⟨_, rfl, rfl, _, rfl, toE (fun z => absurd z h4) (fun _ => ?_)⟩
                have h56 : 5 ≤ c ∧ NameOk v ∧ Out v I0 := by
                  rcases hc with ⟨z, _⟩ | ⟨z1, z2, _, _⟩ | ⟨z, _⟩ | ⟨z, _, ok, ho⟩
                  · omega
                  · omega
                  · omega
                  · exact ⟨z, ok, ho⟩
                obtain ⟨_, ok, ho⟩ := h56
                refine ⟨_, rfl, rfl, _, rfl, toE (fun h5 => ?_) (fun h5 => ?_)⟩
                · exact ⟨_, rfl, q, dy, _, rfl, hq, fI_no _ _ (by decide +kernel) (by decide +kernel), _, rfl, q, v, I0, rfl, rdI, ok, fun _ => kE H (fun _ _ e => e), fun ⟨y, e, hy⟩ => absurd hy (ho y e)⟩
                · exact ⟨_, rfl, q, dy, _, rfl, hq, fI_no _ _ (by decide +kernel) (by decide +kernel), _, rfl, q, v, I0, rfl, rdI, ok, fun _ => kE H (fun _ _ e => e), fun ⟨y, e, hy⟩ => absurd hy (ho y e)⟩
    · obtain ⟨FT, FI, ht, hi, d, hg⟩ := id pr
      have rdT := ht.rd
      have rdI := hi.rd
      obtain ⟨dx, d1, d2, d3, d4, n, f, hp, _⟩ := id rdT
      obtain ⟨dy, e1, e2, g, hq, _⟩ := id rdI
      have ok : NameOk (.str x) := .inr (.inr ⟨x, rfl, hx⟩)
      have inT : x ∈ T0 → ¬ Out (.str x) T0 := fun h o => o x rfl h
      have inI : x ∈ I0 → ¬ Out (.str x) I0 := fun h o => o x rfl h
      have fT : ∀ {H' : Hp} {FT' : Addr → Prop} {T' : List Str}, ThrAt a.CT H' p FT' T' → Keeps FT H H' → Grow FT H FT' → ∃ G' : Addr → Prop, PairAt a H' p q G' T' I0 ∧ Keeps G H H' ∧ Grow G H G' := fun t' kk gg => PairAt.thr ht hi d hg t' kk gg
      have fI : ∀ {H' : Hp} {FI' : Addr → Prop} {I' : List Str}, IdxAt a.CI H' q FI' I' → Keeps FI H H' → Grow FI H FI' → ∃ G' : Addr → Prop, PairAt a H' p q G' T0 I' ∧ Keeps G H H' ∧ Grow G H G' := fun t' kk gg => PairAt.idx ht hi d hg t' kk gg
      refine ⟨_, rfl, rfl, _, rfl, toE (fun h0 => ⟨_, rfl, _, rfl, iteF ?_⟩) (fun h0 => iteF ?_)⟩
      · refine ⟨_, rfl, rfl, _, rfl, toE (fun z => absurd z (by omega)) (fun _ => iteF ?_)⟩
        refine ⟨_, rfl, rfl, _, rfl, toE (fun _ => ?_) (fun z => absurd h0 z)⟩
        refine ⟨_, rfl, p, dx, _, rfl, hp, no_meth _ _ _ _ _ (by decide +kernel), _, rfl, p, x, "", T0, rfl, rdT, hx, fun z => absurd z (k0 h0).1, fun hn => ⟨FT, ht, hT, .inl ⟨rfl, fun H' F' t' kk gg => ?_⟩⟩⟩
        obtain ⟨G', pr', kG, gG⟩ := fT t' kk gg
        exact (k0 h0).2 H' G' pr' kG gG
      · refine ⟨_, rfl, rfl, _, rfl, toE (fun h4 => ⟨_, rfl, _, rfl, iteF ?_⟩) (fun h4 => iteF ?_)⟩
        · refine ⟨_, rfl, rfl, _, rfl, toE (fun z => absurd z h0) (fun _ => ?_)⟩
          refine ⟨_, rfl, rfl, _, rfl, toE (fun z => absurd z (by omega)) (fun _ => ?_)⟩
          refine ⟨_, rfl, rfl, _, rfl, toE (fun z => absurd z (by omega)) (fun _ => ?_)⟩
          refine ⟨_, rfl, rfl, _, rfl, toE (fun z => absurd z (by omega)) (fun _ => ?_)⟩
          refine ⟨_, rfl, rfl, _, rfl, toE (fun _ => ?_) (fun z => absurd h4 z)⟩
          refine ⟨_, rfl, q, dy, _, rfl, hq, fI_no _ _ (by decide +kernel) (by decide +kernel), _, rfl, _, rfl, Nat.le_of_lt (small_line (n := 2) (by decide)), fun l hl => ?_⟩
          have sm : Same H (upd H l (.lst [.str x, .str (("rent" : String) : Str)])) := same_upd hl
          refine ⟨q, x, _, I0, rfl, rdI.same sm, hx, fun z => absurd z (k4 h4).1, fun hn => ⟨FI, l, rfl, SqL.of upd_same, hi.same sm, hI, fun H' F' t' kk gg => ?_⟩⟩
          have kk' : Keeps FI H H' := fun b o e n => kk b o (sm b o e) n
          have gg' : Grow FI H F' := fun b z => by
            rcases gg b z with y | y
            · exact .inl y
            · exact .inr (upd_none y).2
          obtain ⟨G', pr', kG, gG⟩ := fI t' kk' gg'
          exact (k4 h4).2 H' G' pr' kG gG
        · refine ⟨_, rfl, rfl, _, rfl, toE (fun z => absurd z h0) (fun _ => ?_)⟩
          refine ⟨_, rfl, rfl, _, rfl, toE (fun h1 => ?_) (fun h1 => ?_)⟩
          · refine ⟨_, rfl, p, dx, _, rfl, hp, no_meth _ _ _ _ _ (by decide +kernel), _, rfl, p, _, T0, rfl, rdT, ok, fun z => absurd z (inT (k1 h1).1), fun _ => ⟨x, FT, rfl, (k1 h1).1, ht, hT, fun H' F' t' kk gg => ?_⟩⟩
            obtain ⟨G', pr', kG, gG⟩ := fT t' kk gg
            exact (k1 h1).2 H' G' pr' kG gG
          · refine ⟨_, rfl, rfl, _, rfl, toE (fun h2 => ?_) (fun h2 => ?_)⟩
            · exact ⟨_, rfl, p, dx, _, rfl, hp, no_meth _ _ _ _ _ (by decide +kernel), _, rfl, p, _, T0, rfl, rdT, ok, fun z => absurd z (inT (k2 h2).1), fun _ => ⟨x, rfl, ht.one (k2 h2).1, (k2 h2).2⟩⟩
            · refine ⟨_, rfl, rfl, _, rfl, toE (fun h3 => ?_) (fun h3 => ?_)⟩
              · exact ⟨_, rfl, p, dx, _, rfl, hp, no_meth _ _ _ _ _ (by decide +kernel), _, rfl, p, _, T0, rfl, rdT, ok, fun z => absurd z (inT (k3 h3).1), fun _ => ⟨⟨x, FT, rfl, (k3 h3).1, ht, hn⟩, (k3 h3).2⟩⟩
              · refine ⟨_, rfl, rfl, _, rfl, toE (fun z => absurd z h4) (fun _ => ?_)⟩
                refine ⟨_, rfl, rfl, _, rfl, toE (fun h5 => ?_) (fun h5 => ?_)⟩
                · refine ⟨_, rfl, q, dy, _, rfl, hq, fI_no _ _ (by decide +kernel) (by decide +kernel), _, rfl, q, _, I0, rfl, rdI, ok, fun z => absurd z (inI (k5 h5).1), fun _ => ⟨x, FI, rfl, (k5 h5).1, hi, hI, fun H' F' t' kk gg => ?_⟩⟩
                  obtain ⟨G', pr', kG, gG⟩ := fI t' kk gg
                  exact (k5 h5).2 H' G' pr' kG gG
                · have h6 : c = 6 := by omega
                  exact ⟨_, rfl, q, dy, _, rfl, hq, fI_no _ _ (by decide +kernel) (by decide +kernel), _, rfl, q, _, I0, rfl, rdI, ok, fun z => absurd z (inI (k6 h6).1), fun _ => ⟨x, FI, rfl, (k6 h6).1, hi, (k6 h6).2⟩⟩
end
end K24
/-! K24L4: a call that must be refused; one step. -/
namespace K24
open PySem PySem.Spec PyProof.Rows L2

/-- isinstance(e, c) in the suite of an except clause, where e's class is told by the reading -/
def rIsX (K : PySem.W.Frag) (D a : Addr) (cls : Value) (d : Option Addr) : List V → Hp → VK → Prop := fun xs H Q => cls = .ref D ∧ d = none ∧ rIsE K D a xs H Q
theorem call_isX {X : Cx} {a D : Addr} {oe : Obj} {cls : Value} {d : Option Addr} {pn : List (Addr × Obj)} (C : ExcC X.K D) (hz : Zc cls d oe) (hf : ∃ vs, oe.data = .fields vs) : CallR (X.suite a ((a, oe) :: pn)) (.builtin "isinstance") (rIsX X.K D a cls d) := by
  intro pins s σ H xs us Q I r h
  obtain ⟨e1, e2, h⟩ := h
  subst e1 e2
  exact call_isE C hz hf pins s σ H xs us Q I r h
theorem cls_ref {D : Addr} : ∀ u, RelV (.ref D) u → u = .ref D := fun u r => by cases r; rfl
theorem cls_ty {t : String} : ∀ u, RelV (.ty t) u → u = .type t := fun u r => by cases r; rfl
/-- refused, and by the right class -/
def spLR (a : Ads) : Sp := fun vs H Q _ => ∃ (c : Int) (p q : Addr) (v : V) (T I : List Str), vs = [.int c, .ref p, .ref q, v] ∧ ThrRd a.CT H p T ∧ IdxRd a.CI H q I ∧ RefC c v T I ∧ ∀ H' : Hp, Same H H' → Q (.bl true) H'
section
variable {P : Program} {w : World} {K : PySem.W.Frag} {mg : Str → Option Value} {base : Heap} {a : Ads}
theorem ok_LR (T : Txt K mg a) : ∃ fd, FnOk P w K mg base CX0 5 a.fLR fd ["_law_call", "_law_threads", "_law_index", "_law_name"] (spLR a) ∧ Binds K fd ["_law_call", "_law_threads", "_law_index", "_law_name"] [] := by
  obtain ⟨fd, F⟩ := T.FLR
  obtain ⟨fdC, GC, bC⟩ := ok_LC (P := P) (w := w) (base := base) T
  obtain ⟨fdM, FM⟩ := T.FLC
  have kC := FM.kp
  refine ⟨fd, F.ok scLR (fun vs H Q E h => ?_) (fun cdv A outer s H vs Q E hr h => ?_), F.binds (ps := ["_law_call", "_law_threads", "_law_index", "_law_name"]) fun _ _ _ _ _ _ us hl => match us, hl with | [_, _, _, _], _ => rfl⟩
  · obtain ⟨c, p, q, v, T0, I0, rfl, _⟩ := h
    rfl
  · obtain ⟨c, p, q, v, T0, I0, rfl, rdT, rdI, hc, k⟩ := h
    refine ⟨_, pss_cons (ps_try_as (i := 4) rfl rfl scLR.nd rfl rfl ⟨rfl, by decide, .inl T.gCM⟩ takes0
        (fun W pn xe tk _ => pss_one (ps_expr (by exact (pe_callS GC hr rfl T.gLC kC bC (fun σ => passAt tk σ) (by exact (pa_cons (pv 0) (pa_cons (pv 1) (pa_cons (pv 2) (pa_cons (pv 3) (pa_cons pe_bl pa_nil))))))))))
        (fun ea oe cls d pn hz hf => by exact (pss_cons (ps_set (i := 5) scLR.nd rfl (Or.inl rfl) (pe_lst (pa_cons (pe_callB (call_isX T.exN hz hf) (by rfl) T.m_isinstance (by decide +kernel) (pa_cons (pv 4) (pa_cons (pe_glob (v := .ref a.CW) (by rfl) T.gCW rfl) pa_nil)))
            (pa_cons (pe_callB (call_isX T.exN hz hf) (by rfl) T.m_isinstance (by decide +kernel) (pa_cons (pv 4) (pa_cons (pe_glob (v := .ref a.CL) (by rfl) T.gCL rfl) pa_nil))) (pa_cons (pe_callB (call_isX T.exN hz hf) (by rfl) T.m_isinstance (by decide +kernel) (pa_cons (pv 4) (pa_cons (pe_glob (v := .ref a.CR) (by rfl) T.gCR rfl) pa_nil))) pa_nil)))))
          (pss_cons (ps_set (i := 5) scLR.nd rfl (Or.inl rfl) (pe_op op_cat (pv 5) (pe_lst (pa_cons (pe_callB (call_isX T.exN hz hf) (by rfl) T.m_isinstance (by decide +kernel) (pa_cons (pv 4) (pa_cons (pe_glob (v := .ref a.CP) (by rfl) T.gCP rfl) pa_nil)))
            (pa_cons (pe_callB (call_isX T.exN hz hf) (by rfl) T.m_isinstance (by decide +kernel) (pa_cons (pv 4) (pa_cons (pe_glob (v := .ref a.CO) (by rfl) T.gCO rfl) pa_nil))) pa_nil)))))
          (pss_one (ps_ret (pe_and (pe_callB (call_isX T.exN hz hf) (by rfl) T.m_isinstance (by decide +kernel) (pa_cons (pv 4) (pa_cons (pe_glob (v := .ref a.CN) (by rfl) T.gCN rfl) pa_nil)))
            (pe_and (pe_callB (call_isX T.exN hz hf) (by rfl) T.m_isinstance (by decide +kernel) (pa_cons (pv 4) (pa_cons (pe_bltn (v := .ty "ValueError") (u := .type "ValueError") (by rfl) T.m_ValueError (by decide +kernel) rfl) pa_nil)))
            (pe_one (pe_cmpR op_eq (show PE _ _ (tBM K "list" (rCntB K) (tVar 5) (tCons (tC (.bl true)) tNil)) from pe_bm PySem.F.plainAttrs_list PySem.F.slot_list_count PySem.F.type_list_count mt_countB (pv 5) (pa_cons pe_bl pa_nil)) pe_int (nomark _)))))))))))
      (pss_one (ps_ret pe_bl)), ?_⟩
    refine ⟨_, rfl, _, rfl, _, rfl, _, rfl, c, p, q, v, true, T0, I0, rfl, .inl ⟨rfl, rdT, rdI, hc, fun H' sm => ⟨true, T.eM, fun _ e he => ?_, fun z => Bool.noConfusion z⟩⟩⟩
    refine ⟨_, rfl, rfl, rfl, _, _, _, rfl, cls_ref, T.iCW, _, rfl, rfl, rfl, _, _, _, rfl, cls_ref, T.iCL, _, rfl, rfl, rfl, _, _, _, rfl, cls_ref, T.iCR, Nat.le_of_lt (small_line (n := 3) (by decide)), fun l1 n1 => ?_⟩
    refine ⟨_, rfl, _, rfl, rfl, rfl, _, _, _, rfl, cls_ref, T.iCP, _, rfl, rfl, rfl, _, _, _, rfl, cls_ref, T.iCO, Nat.le_of_lt (small_line (n := 2) (by decide)), fun l2 n2 => ?_⟩
    have n21 := (upd_none n2).1
    refine ⟨_, _, [.bl false, .bl false, .bl false], [.bl false, .bl false], rfl, rfl, (upd_ne n21.symm).trans upd_same, upd_same, Nat.le_of_lt (small_line (n := 5) (by decide)), fun l3 n3 => ?_⟩
    refine ⟨_, rfl, rfl, rfl, _, _, _, rfl, cls_ref, T.iCN, true, rfl, iteT ?_⟩
    refine ⟨_, rfl, rfl, rfl, _, _, _, rfl, cls_ty, T.iVE, true, rfl, iteT ?_⟩
    refine ⟨_, rfl, .inl ⟨rfl, _, SqL.of upd_same⟩, l3, [false, false, false, false, false], true, rfl, rfl, SqL.of upd_same, rfl, ?_⟩
    have e5 : decide (V.int ((List.count true [false, false, false, false, false] : Nat) : Int) = V.int 0) = true := decide_eq_true rfl
    rw [e5]
    exact k _ (same_upd2 (same_upd2 (same_upd2 sm n1) n2) n3)
end
end K24
/-! K24L5: one step of the law. -/
namespace K24
open PySem PySem.Spec PyProof.Rows L2

/-! ### data -/
theorem ls_lay : ∀ ys : List Str, (∀ y ∈ ys, PyData.strOk y = true) → PyData.canLayAll0 (ys.map PyData.str) = true
  | [], _ => by simp [PyData.canLayAll0]
  | y :: ys, h => by simp only [List.map_cons, PyData.canLayAll0, PyData.canLay0, h y List.mem_cons_self, ls_lay ys fun z hz => h z (List.mem_cons_of_mem _ hz), Bool.and_self]
theorem ls_depth : ∀ ys : List Str, PyData.depthAll (ys.map PyData.str) ≤ 1
  | [] => by simp [PyData.depthAll]
  | y :: ys => by
    have h1 := ls_depth ys
    simp only [List.map_cons, PyData.depthAll, PyData.depth]
    omega
theorem shape_of {d : PyData} (h : d.canLay0 = true) (h2 : d.depth ≤ 64) : SeqAt.shaped d = true := by
  show (d.canLay0 && decide (d.depth ≤ 64)) = true
  rw [Bool.and_eq_true]
  exact ⟨h, decide_eq_true h2⟩
theorem ls_shaped {ys : List Str} (h : ∀ y ∈ ys, PyData.strOk y = true) : SeqAt.shaped (.list (ys.map PyData.str)) = true := by
  refine shape_of (by simp only [PyData.canLay0]; exact ls_lay ys h) ?_
  have := ls_depth ys
  simp only [PyData.depth]
  omega
theorem lls_lay : ∀ ys : List Str, (∀ y ∈ ys, PyData.strOk y = true) → PyData.canLayAll0 (ys.map fun y => PyData.list [.str y]) = true
  | [], _ => by simp [PyData.canLayAll0]
  | y :: ys, h => by simp only [List.map_cons, PyData.canLayAll0, PyData.canLay0, h y List.mem_cons_self, lls_lay ys fun z hz => h z (List.mem_cons_of_mem _ hz), Bool.and_self]
theorem lls_depth : ∀ ys : List Str, PyData.depthAll (ys.map fun y => PyData.list [.str y]) ≤ 2
  | [] => by simp [PyData.depthAll]
  | y :: ys => by
    have h1 := lls_depth ys
    simp only [List.map_cons, PyData.depthAll, PyData.depth]
    omega
theorem lls_shaped {ys : List Str} (h : ∀ y ∈ ys, PyData.strOk y = true) : SeqAt.shaped (.list (ys.map fun y => PyData.list [.str y])) = true := by
  refine shape_of (by simp only [PyData.canLay0]; exact lls_lay ys h) ?_
  have := lls_depth ys
  simp only [PyData.depth]
  omega
theorem dpStrs {K : PySem.W.Frag} {H : Hp} : ∀ ys : List Str, DpAll K H (ys.map V.str) (ys.map PyData.str)
  | [] => .nil
  | y :: ys => .cons (.str y) (dpStrs ys)
theorem eqvR {d : PyData} (h : SeqAt.shaped d = true) : PyData.eqv d d = true := SeqAt.eqv_refl d (SeqAt.canLay_of_shaped h)
theorem inL (x : Str) : ∀ L : List Str, inV (.str x) (L.map V.str) = decide (x ∈ L)
  | [] => rfl
  | y :: L => by
    have ih := inL x L
    unfold inV at ih ⊢
    rw [List.map_cons, List.any_cons, ih]
    rw [Bool.eq_iff_iff]
    simp only [eqV, Bool.or_eq_true, beq_iff_eq, decide_eq_true_eq, List.mem_cons]
    exact or_congr ⟨fun h => h.symm, fun h => h.symm⟩ Iff.rfl
theorem flatL (L : List Str) : (L.map V.str).all flatV = true := by
  rw [List.all_map]
  exact List.all_eq_true.mpr fun _ _ => rfl

/-! ### the law's state -/
theorem PairAt.keep {a : Ads} {H H' : Hp} {p q : Addr} {G : Addr → Prop} {T I : List Str} (h : PairAt a H p q G T I) (k : ∀ b, G b → H' b = H b) : PairAt a H' p q G T I := by
  obtain ⟨FT, FI, ht, hi, d, hg⟩ := h
  exact ⟨FT, FI, ht.keep fun b z => k b ((hg b).mpr (.inl z)), hi.keep fun b z => k b ((hg b).mpr (.inr z)), d, hg⟩
structure LawD (a : Ads) (H : Hp) (p q a0 a1 a2 : Addr) (W G : Addr → Prop) (T I : List Str) : Prop where
  pr : PairAt a H p q G T I
  l0 : H a0 = some (.lst [.ref a1, .ref a2])
  l1 : H a1 = some (.lst (T.map V.str))
  l2 : H a2 = some (.lst (I.map V.str))
  n0 : ¬ G a0
  n1 : ¬ G a1
  n2 : ¬ G a2
  d01 : a0 ≠ a1
  d02 : a0 ≠ a2
  d12 : a1 ≠ a2
  gT : ∀ y ∈ T, Good y
  gI : ∀ y ∈ I, Good y
  fp : ∀ b, W b ↔ G b ∨ b = a0 ∨ b = a1 ∨ b = a2
def LawAt (a : Ads) (H : Hp) (p q a0 : Addr) (W : Addr → Prop) (T I : List Str) : Prop := ∃ (a1 a2 : Addr) (G : Addr → Prop), LawD a H p q a0 a1 a2 W G T I
section
variable {a : Ads} {H H1 H5 : Hp} {p q a0 a1 a2 : Addr} {W G G1 : Addr → Prop} {T I T1 I1 : List Str}
theorem LawD.next (d : LawD a H p q a0 a1 a2 W G T I) (pr : PairAt a H1 p q G1 T1 I1) (k : Keeps G H H1) (g : Grow G H G1) (h : ∀ b o, H1 b = some o → b ≠ a1 → b ≠ a2 → H5 b = some o) (e1 : H5 a1 = some (.lst (T1.map V.str))) (e2 : H5 a2 = some (.lst (I1.map V.str)))
    (gT : ∀ y ∈ T1, Good y) (gI : ∀ y ∈ I1, Good y) : ∃ W', LawAt a H5 p q a0 W' T1 I1 ∧ Keeps W H H5 ∧ Grow W H W' := by
  have no : ∀ b o, H b = some o → ¬ G b → ¬ G1 b := fun b o e n z => by
    rcases g b z with y | y
    · exact n y
    · rw [e] at y; cases y
  refine ⟨fun b => G1 b ∨ b = a0 ∨ b = a1 ∨ b = a2, ⟨a1, a2, G1, ?_⟩, fun b o e n => ?_, fun b z => ?_⟩
  · exact
      { pr := pr.keep fun b hb => by
          obtain ⟨o, e⟩ := pr.lives b hb
          rw [e]
          exact h b o e (fun z => no a1 _ d.l1 d.n1 (z ▸ hb)) fun z => no a2 _ d.l2 d.n2 (z ▸ hb)
        l0 := h a0 _ (k a0 _ d.l0 d.n0) d.d01 d.d02
        l1 := e1
        l2 := e2
        n0 := no a0 _ d.l0 d.n0
        n1 := no a1 _ d.l1 d.n1
        n2 := no a2 _ d.l2 d.n2
        d01 := d.d01
        d02 := d.d02
        d12 := d.d12
        gT := gT
        gI := gI
        fp := fun b => Iff.rfl }
  · exact h b o (k b o e fun z => n ((d.fp b).mpr (.inl z))) (fun z => n ((d.fp b).mpr (.inr (.inr (.inl z))))) fun z => n ((d.fp b).mpr (.inr (.inr (.inr z))))
  · rcases z with z | z
    · rcases g b z with y | y
      · exact .inl ((d.fp b).mpr (.inl y))
      · exact .inr y
    · exact .inl ((d.fp b).mpr (.inr z))
theorem LawAt.same (h : LawAt a H p q a0 W T I) (s : Same H H1) : LawAt a H1 p q a0 W T I := by
  obtain ⟨a1, a2, G, d⟩ := h
  exact ⟨a1, a2, G, { d with pr := d.pr.same s, l0 := s _ _ d.l0, l1 := s _ _ d.l1, l2 := s _ _ d.l2 }⟩
end
/-- one step: a call and its answer, or its refusal -/
def spLS (a : Ads) : Sp := fun vs H Q _ => ∃ (c : Int) (p q : Addr) (x : Str) (a0 : Addr) (W : Addr → Prop) (T I : List Str), vs = [.int c, .ref p, .ref q, .str x, .ref a0] ∧ 0 ≤ c ∧ c ≤ 6 ∧ Good x ∧ LawAt a H p q a0 W T I ∧ T.length ≤ 100 ∧ I.length ≤ 100 ∧
  ∀ (H' : Hp) (W' : Addr → Prop) (T' I' : List Str), LawAt a H' p q a0 W' T' I' → Keeps W H H' → Grow W H W' → T'.length ≤ T.length + 1 → I'.length ≤ I.length + 1 → Q (.bl true) H'
section
variable {P : Program} {w : World} {K : PySem.W.Frag} {mg : Str → Option Value} {base : Heap} {a : Ads}
theorem ok_LS (T : Txt K mg a) : ∃ fd, FnOk P w K mg base CX0 6 a.fLS fd ["_law_call", "_law_threads", "_law_index", "_law_name", "_law_there"] (spLS a) ∧ Binds K fd ["_law_call", "_law_threads", "_law_index", "_law_name", "_law_there"] [] := by
  obtain ⟨fd, F⟩ := T.FLS
  obtain ⟨fdC, GC, bC⟩ := ok_LC (P := P) (w := w) (base := base) T
  obtain ⟨fdR, GR, bR⟩ := ok_LR (P := P) (w := w) (base := base) T
  obtain ⟨fdU, GU, bU⟩ := ok_LU (P := P) (w := w) (base := base) T
  obtain ⟨fdC', FC⟩ := T.FLC
  obtain ⟨fdR', FR⟩ := T.FLR
  obtain ⟨fdU', FU⟩ := T.FLU
  have kC := FC.kp
  have kR := FR.kp
  have kU := FU.kp
  have GC := GC.mono (k := 5) (by decide)
  have GU := GU.mono (k := 5) (by decide)
  refine ⟨fd, F.ok scLS (fun vs H Q E h => ?_) (fun cdv A outer s H vs Q E hr h => ?_), F.binds (ps := ["_law_call", "_law_threads", "_law_index", "_law_name", "_law_there"]) fun _ _ _ _ _ _ us hl => match us, hl with | [_, _, _, _, _], _ => rfl⟩
  · obtain ⟨c, p, q, x, a0, W, T0, I0, rfl, _⟩ := h
    rfl
  · obtain ⟨c, p, q, x, a0, W, T0, I0, rfl, c0, c6, gx, ⟨a1, a2, G, d⟩, hT, hI, k⟩ := h
    -- the answer is the one that is due
    obtain ⟨tR, pR, hR⟩ : ∃ tR, PSs (cxOf CX0 P w K mg base ["_law_call", "_law_threads", "_law_index", "_law_name", "_law_there", "_law_mine", "_law_found"] "_law_step" (defScope sLS) a.fLS cdv A outer s H E).nox ((defBody sLS).drop 5) tR ∧
        ∀ (v m : V) (H2 : Hp), ((v = .non ∧ (c = 0 ∨ c = 1 ∨ c = 4 ∨ c = 5)) ∨ (v = .int 0 ∧ c = 3) ∨ (c = 2 ∧ ∃ l, v = .ref l ∧ H2 l = some (.lst [.str x])) ∨ (c = 6 ∧ ∃ l ys, v = .ref l ∧ H2 l = some (.lst (ys.map V.str)) ∧ ys.Perm (wl x) ∧ sortedS ys = true)) →
          (∀ H3, Same H2 H3 → Q (.bl true) H3) → tR { nx := fun _ H' => Q .non H', rt := Q } [some (.int c), some (.ref p), some (.ref q), some (.str x), some (.ref a0), some m, some v] H2 := by
      refine ⟨_, pss_cons (ps_if (pt_val (pe_callB call_isi (by rfl) T.m_isinstance (by decide +kernel) (pa_cons (pv 6) (pa_cons (pe_bltn (v := .ty "bool") (u := .type "bool") (by rfl) T.m_bool (by decide +kernel) rfl) pa_nil)))) (pss_one (ps_ret pe_bl)) pss_nil)
        (pss_one (ps_ret (pe_cmpR (op_eqD hr.units) (pv 6) (pe_call GU hr rfl T.gLU kU bU .nil pass0 (pa_cons (pv 0) (pa_cons (pv 3) pa_nil))) (nomark _)))), fun v m H2 hc kQ => ?_⟩
      have wlOk : ∀ ys : List Str, ys.Perm (wl x) → ∀ y ∈ ys, PyData.strOk y = true := fun ys hp y hy => by
        rcases mem_wl.mp (hp.mem_iff.mp hy) with e | e
        · rw [e]; exact gx.ok
        · rw [e]; decide +kernel
      rcases hc with ⟨rfl, hc⟩ | ⟨rfl, hc⟩ | ⟨hc, l, rfl, hl⟩ | ⟨hc, l, ys, rfl, hl, hp, hs⟩
      · refine ⟨_, rfl, _, _, _, _, false, rfl, .ty "bool", .base .non, kit_ty (by decide +kernel), _, rfl, iteF ?_⟩
        refine ⟨_, rfl, _, rfl, _, rfl, c, x, rfl, c0, c6, fun _ H' sm => ⟨.none, .none, .non, .non, rfl, rfl, ?_⟩, fun z => absurd z (by omega), fun z => absurd z (by omega), fun z => absurd z (by omega)⟩
        rw [eqvR (d := .none) rfl]
        exact kQ H' sm
      · refine ⟨_, rfl, _, _, _, _, false, rfl, .ty "bool", .base (.int 0), kit_ty (by decide +kernel), _, rfl, iteF ?_⟩
        refine ⟨_, rfl, _, rfl, _, rfl, c, x, rfl, c0, c6, fun z => absurd z (by omega), fun z => absurd z (by omega), fun _ H' sm => ⟨.int 0, .int 0, .int 0, .int 0, rfl, rfl, ?_⟩, fun z => absurd z (by omega)⟩
        rw [eqvR (d := .int 0) rfl]
        exact kQ H' sm
      · refine ⟨_, rfl, _, _, _, _, false, rfl, .ty "bool", .base (.lst hl), kit_ty (by decide +kernel), _, rfl, iteF ?_⟩
        have sh : SeqAt.shaped (.list [.str x]) = true := ls_shaped (ys := [x]) fun y hy => by rw [List.mem_singleton.mp hy]; exact gx.ok
        refine ⟨_, rfl, _, rfl, _, rfl, c, x, rfl, c0, c6, fun z => absurd z (by omega), fun _ H' l2 sm n2 e2 => ⟨.list [.str x], .list [.str x], .lst (SqL.of (sm _ _ hl)) (.cons (.str x) .nil), .lst (SqL.of e2) (.cons (.str x) .nil), sh, sh, ?_⟩, fun z => absurd z (by omega), fun z => absurd z (by omega)⟩
        rw [eqvR sh]
        exact kQ H' sm
      · refine ⟨_, rfl, _, _, _, _, false, rfl, .ty "bool", .base (.lst hl), kit_ty (by decide +kernel), _, rfl, iteF ?_⟩
        have sh : SeqAt.shaped (.list (ys.map PyData.str)) = true := ls_shaped (wlOk ys hp)
        refine ⟨_, rfl, _, rfl, _, rfl, c, x, rfl, c0, c6, fun z => absurd z (by omega), fun z => absurd z (by omega), fun z => absurd z (by omega), fun _ H' l2 zs sm n2 e2 hp2 hs2 => ?_⟩
        have e : zs = ys := sorted_one hp2 hp hs2 hs
        subst e
        refine ⟨.list (zs.map PyData.str), .list (zs.map PyData.str), .lst (SqL.of (sm _ _ hl)) (dpStrs zs), .lst (SqL.of e2) (dpStrs zs), sh, sh, ?_⟩
        rw [eqvR sh]
        exact kQ H' sm
    obtain ⟨FT, FI, ht, hi, dd, hg⟩ := id d.pr
    have rdT := ht.rd
    have rdI := hi.rd
    have xl : x.length ≤ 100 := Nat.le_trans gx.le (by decide)
    have nT : ("" : Str) ∉ T0 := fun z => good_no (d.gT _ z) rfl
    have ok : NameOk (.str x) := .inr (.inr ⟨x, rfl, xl⟩)
    -- the list of the names of its kind
    obtain ⟨m, L, hm, hL, hz⟩ : ∃ (m : Addr) (L : List Str), H m = some (.lst (L.map V.str)) ∧ ((c ≤ 3 ∧ m = a1 ∧ L = T0) ∨ (3 < c ∧ m = a2 ∧ L = I0)) ∧ atI [V.ref a1, V.ref a2] (if decide (3 < c) = true then 1 else 0) = some (.ref m) := by
      by_cases h3 : 3 < c
      · exact ⟨a2, I0, d.l2, .inr ⟨h3, rfl, rfl⟩, by rw [if_pos (decide_eq_true h3)]; exact at_of (j := 1) rfl rfl⟩
      · exact ⟨a1, T0, d.l1, .inl ⟨by omega, rfl, rfl⟩, by rw [if_neg (by simpa using h3)]; exact at_of (j := 0) rfl rfl⟩
    -- the lists follow
    obtain ⟨tF, pF, hF⟩ : ∃ tF, PSs (cxOf CX0 P w K mg base ["_law_call", "_law_threads", "_law_index", "_law_name", "_law_there", "_law_mine", "_law_found"] "_law_step" (defScope sLS) a.fLS cdv A outer s H E).nox ((defBody sLS).drop 3) tF ∧
        ∀ (v : V) (H1 : Hp) (G1 : Addr → Prop) (T1 I1 : List Str), PairAt a H1 p q G1 T1 I1 → Keeps G H H1 → Grow G H G1 →
          ((c = 0 ∧ x ∉ T0 ∧ T1 = T0 ++ [x] ∧ I1 = I0) ∨ (c = 1 ∧ x ∈ T0 ∧ T1 = but x T0 ∧ I1 = I0) ∨ (c = 4 ∧ x ∉ I0 ∧ T1 = T0 ∧ I1 = I0 ++ [x]) ∨ (c = 5 ∧ x ∈ I0 ∧ T1 = T0 ∧ I1 = but x I0) ∨ ((c = 2 ∨ c = 3 ∨ c = 6) ∧ T1 = T0 ∧ I1 = I0)) →
          ((v = .non ∧ (c = 0 ∨ c = 1 ∨ c = 4 ∨ c = 5)) ∨ (v = .int 0 ∧ c = 3) ∨ (c = 2 ∧ ∃ l, v = .ref l ∧ H1 l = some (.lst [.str x])) ∨ (c = 6 ∧ ∃ l ys, v = .ref l ∧ H1 l = some (.lst (ys.map V.str)) ∧ ys.Perm (wl x) ∧ sortedS ys = true)) →
          tF { nx := fun _ H' => Q .non H', rt := Q } [some (.int c), some (.ref p), some (.ref q), some (.str x), some (.ref a0), some (.ref m), some v] H1 := by
      refine ⟨_, pss_cons (ps_if (pt_cmpR op_in_seq (pv 0) (pe_lst (pa_cons pe_int (pa_cons pe_int pa_nil))) (by rfl))
          (pss_one (ps_expr (pe_bm PySem.F.plainAttrs_list PySem.F.slot_list_append PySem.F.type_list_append mt_append (pv 5) (pa_cons (pv 3) pa_nil)))) pss_nil)
        (pss_cons (ps_if (pt_cmpR op_in_seq (pv 0) (pe_lst (pa_cons pe_int (pa_cons pe_int pa_nil))) (by rfl))
          (pss_one (ps_expr (pe_bm PySem.F.plainAttrs_list PySem.F.slot_list_remove PySem.F.type_list_remove mt_removeS (pv 5) (pa_cons (pv 3) pa_nil)))) pss_nil)
        pR), fun v H1 G1 T1 I1 pr kk gg rel hv => ?_⟩
      have hm1 : H1 m = some (.lst (L.map V.str)) := kk _ _ hm (by rcases hL with ⟨_, rfl, _⟩ | ⟨_, rfl, _⟩ <;> first | exact d.n1 | exact d.n2)
      have e10 : H1 a1 = some (.lst (T0.map V.str)) := kk _ _ d.l1 d.n1
      have e20 : H1 a2 = some (.lst (I0.map V.str)) := kk _ _ d.l2 d.n2
      have gT1 : ∀ y ∈ T1, Good y := fun y hy => by
        rcases rel with ⟨_, _, rfl, _⟩ | ⟨_, _, rfl, _⟩ | ⟨_, _, rfl, _⟩ | ⟨_, _, rfl, _⟩ | ⟨_, rfl, _⟩
        · rcases List.mem_append.mp hy with z | z
          · exact d.gT y z
          · rw [List.mem_singleton.mp z]; exact gx
        · exact d.gT y (mem_but.mp hy).1
        · exact d.gT y hy
        · exact d.gT y hy
        · exact d.gT y hy
      have gI1 : ∀ y ∈ I1, Good y := fun y hy => by
        rcases rel with ⟨_, _, _, rfl⟩ | ⟨_, _, _, rfl⟩ | ⟨_, _, _, rfl⟩ | ⟨_, _, _, rfl⟩ | ⟨_, _, rfl⟩
        · exact d.gI y hy
        · exact d.gI y hy
        · rcases List.mem_append.mp hy with z | z
          · exact d.gI y z
          · rw [List.mem_singleton.mp z]; exact gx
        · exact d.gI y (mem_but.mp hy).1
        · exact d.gI y hy
      have lT : T1.length ≤ T0.length + 1 := by
        rcases rel with ⟨_, _, rfl, _⟩ | ⟨_, _, rfl, _⟩ | ⟨_, _, rfl, _⟩ | ⟨_, _, rfl, _⟩ | ⟨_, rfl, _⟩
        · rw [List.length_append]; exact Nat.le_refl _
        · exact Nat.le_succ_of_le (but_len _ _)
        · exact Nat.le_succ _
        · exact Nat.le_succ _
        · exact Nat.le_succ _
      have lI : I1.length ≤ I0.length + 1 := by
        rcases rel with ⟨_, _, _, rfl⟩ | ⟨_, _, _, rfl⟩ | ⟨_, _, _, rfl⟩ | ⟨_, _, _, rfl⟩ | ⟨_, _, rfl⟩
        · exact Nat.le_succ _
        · exact Nat.le_succ _
        · rw [List.length_append]; exact Nat.le_refl _
        · exact Nat.le_succ_of_le (but_len _ _)
        · exact Nat.le_succ _
      have fin : ∀ H4 : Hp, (∀ b o, H1 b = some o → b ≠ a1 → b ≠ a2 → H4 b = some o) → H4 a1 = some (.lst (T1.map V.str)) → H4 a2 = some (.lst (I1.map V.str)) → ∀ Hf, Same H4 Hf → Q (.bl true) Hf := fun H4 hk e1 e2 Hf sm => by
        obtain ⟨W', la, kw, gw⟩ := d.next pr kk gg (H5 := Hf) (fun b o e z1 z2 => sm _ _ (hk b o e z1 z2)) (sm _ _ e1) (sm _ _ e2) gT1 gI1
        exact k Hf W' T1 I1 la kw gw lT lI
      -- if call in [0, 4]
      refine ⟨_, rfl, Nat.le_of_lt (small_line (n := 2) (by decide)), fun l2 n2 => ⟨l2, _, rfl, .inl (SqL.of upd_same), rfl, rfl, _, rfl, ?_⟩⟩
      have sm2 : Same H1 (upd H1 l2 (.lst [.int 0, .int 4])) := same_upd n2
      have i2 := in2 (c := c)
      have i2b := in2b (c := c)
      refine ite2 (fun h => ?_) (fun h => ?_)
      · have h : inV (.int c) [.int 0, .int 4] = true := h
        rw [i2, decide_eq_true_eq] at h
        have hvn : v = .non := by
          rcases hv with ⟨z, _⟩ | ⟨_, z⟩ | ⟨z, _⟩ | ⟨z, _⟩
          · exact z
          · omega
          · omega
          · omega
        refine ⟨_, rfl, .inl ⟨rfl, _, SqL.of (sm2 _ _ hm1)⟩, _, rfl, m, _, _, rfl, rfl, sm2 _ _ hm1, ?_, ?_⟩
        · rw [List.length_map]
          refine small_line ?_
          rcases hL with ⟨_, _, rfl⟩ | ⟨_, _, rfl⟩
          · omega
          · omega
        refine ⟨_, rfl, Nat.le_of_lt (small_line (n := 2) (by decide)), fun l3 n3 => ⟨l3, _, rfl, .inl (SqL.of upd_same), rfl, rfl, _, rfl, ?_⟩⟩
        refine ite2 (fun h5 => ?_) (fun h5 => ?_)
        · have h5 : inV (.int c) [.int 1, .int 5] = true := h5
          rw [i2b, decide_eq_true_eq] at h5
          omega
        · have n3' := upd_none n3
          have f3 : upd (upd (upd H1 l2 (.lst [.int 0, .int 4])) m (.lst (L.map V.str ++ [.str x]))) l3 (.lst [.int 1, .int 5]) m = some (.lst ((L ++ [x]).map V.str)) := by
            rw [upd_ne n3'.1.symm, upd_same, List.map_append]
            rfl
          have f4 : ∀ b o, H1 b = some o → b ≠ m → upd (upd (upd H1 l2 (.lst [.int 0, .int 4])) m (.lst (L.map V.str ++ [.str x]))) l3 (.lst [.int 1, .int 5]) b = some o := fun b o e z => by
            have q := sm2 b o e
            rw [upd_ne (fun y => by rw [y] at q; rw [n3'.2] at q; cases q), upd_ne z]
            exact q
          refine hR v _ _ (.inl ⟨hvn, by omega⟩) (fin _ ?_ ?_ ?_)
          · intro b o e z1 z2
            refine f4 b o e ?_
            rcases hL with ⟨_, rfl, _⟩ | ⟨_, rfl, _⟩
            · exact z1
            · exact z2
          · rcases hL with ⟨h3, rfl, rfl⟩ | ⟨h3, rfl, rfl⟩
            · rcases rel with ⟨_, _, rfl, _⟩ | ⟨z, _⟩ | ⟨z, _⟩ | ⟨z, _⟩ | ⟨z, _⟩
              · exact f3
              all_goals omega
            · rcases rel with ⟨z, _⟩ | ⟨z, _⟩ | ⟨_, _, rfl, _⟩ | ⟨z, _⟩ | ⟨z, _⟩
              · omega
              · omega
              · exact f4 _ _ e10 d.d12
              all_goals omega
          · rcases hL with ⟨h3, rfl, rfl⟩ | ⟨h3, rfl, rfl⟩
            · rcases rel with ⟨_, _, _, rfl⟩ | ⟨z, _⟩ | ⟨z, _⟩ | ⟨z, _⟩ | ⟨z, _⟩
              · exact f4 _ _ e20 d.d12.symm
              all_goals omega
            · rcases rel with ⟨z, _⟩ | ⟨z, _⟩ | ⟨_, _, _, rfl⟩ | ⟨z, _⟩ | ⟨z, _⟩
              · omega
              · omega
              · exact f3
              all_goals omega
      · have h : ¬ inV (.int c) [.int 0, .int 4] = true := h
        rw [i2, decide_eq_true_eq] at h
        refine ⟨_, rfl, Nat.le_of_lt (small_line (n := 2) (by decide)), fun l3 n3 => ⟨l3, _, rfl, .inl (SqL.of upd_same), rfl, rfl, _, rfl, ?_⟩⟩
        have sm3 : Same H1 (upd (upd H1 l2 (.lst [.int 0, .int 4])) l3 (.lst [.int 1, .int 5])) := same_upd2 sm2 n3
        refine ite2 (fun h5 => ?_) (fun h5 => ?_)
        · have h5 : inV (.int c) [.int 1, .int 5] = true := h5
          rw [i2b, decide_eq_true_eq] at h5
          have hvn : v = .non := by
            rcases hv with ⟨z, _⟩ | ⟨_, z⟩ | ⟨z, _⟩ | ⟨z, _⟩
            · exact z
            · omega
            · omega
            · omega
          have hx : x ∈ L := by
            rcases hL with ⟨h3, _, rfl⟩ | ⟨h3, _, rfl⟩
            · rcases rel with ⟨z, _⟩ | ⟨_, z, _⟩ | ⟨z, _⟩ | ⟨z, _⟩ | ⟨z, _⟩
              · omega
              · exact z
              all_goals omega
            · rcases rel with ⟨z, _⟩ | ⟨z, _⟩ | ⟨z, _⟩ | ⟨_, z, _⟩ | ⟨z, _⟩
              · omega
              · omega
              · omega
              · exact z
              · omega
          have ndL : L.Nodup := by
            rcases hL with ⟨_, _, rfl⟩ | ⟨_, _, rfl⟩
            · exact ht.nd
            · exact hi.nd
          refine ⟨_, rfl, .inl ⟨rfl, _, SqL.of (sm3 _ _ hm1)⟩, _, rfl, m, L, x, rfl, rfl, sm3 _ _ hm1, hx, ?_⟩
          rw [but_erase ndL]
          have f4 : ∀ b o, H1 b = some o → b ≠ m → upd (upd (upd H1 l2 (.lst [.int 0, .int 4])) l3 (.lst [.int 1, .int 5])) m (.lst ((but x L).map V.str)) b = some o := fun b o e z => by
            rw [upd_ne z]
            exact sm3 b o e
          refine hR v _ _ (.inl ⟨hvn, by omega⟩) (fin _ ?_ ?_ ?_)
          · intro b o e z1 z2
            refine f4 b o e ?_
            rcases hL with ⟨_, rfl, _⟩ | ⟨_, rfl, _⟩
            · exact z1
            · exact z2
          · rcases hL with ⟨h3, rfl, rfl⟩ | ⟨h3, rfl, rfl⟩
            · rcases rel with ⟨z, _⟩ | ⟨_, _, rfl, _⟩ | ⟨z, _⟩ | ⟨z, _⟩ | ⟨z, _⟩
              · omega
              · exact upd_same
              all_goals omega
            · rcases rel with ⟨z, _⟩ | ⟨z, _⟩ | ⟨z, _⟩ | ⟨_, _, rfl, _⟩ | ⟨z, _⟩
              · omega
              · omega
              · omega
              · exact f4 _ _ e10 d.d12
              · omega
          · rcases hL with ⟨h3, rfl, rfl⟩ | ⟨h3, rfl, rfl⟩
            · rcases rel with ⟨z, _⟩ | ⟨_, _, _, rfl⟩ | ⟨z, _⟩ | ⟨z, _⟩ | ⟨z, _⟩
              · omega
              · exact f4 _ _ e20 d.d12.symm
              all_goals omega
            · rcases rel with ⟨z, _⟩ | ⟨z, _⟩ | ⟨z, _⟩ | ⟨_, _, _, rfl⟩ | ⟨z, _⟩
              · omega
              · omega
              · omega
              · exact upd_same
              · omega
        · have h5 : ¬ inV (.int c) [.int 1, .int 5] = true := h5
          rw [i2b, decide_eq_true_eq] at h5
          have hTI : T1 = T0 ∧ I1 = I0 := by
            rcases rel with ⟨z, _⟩ | ⟨z, _⟩ | ⟨z, _⟩ | ⟨z, _⟩ | ⟨_, z⟩
            · omega
            · omega
            · omega
            · omega
            · exact z
          refine hR v _ _ ?_ (fin _ (fun b o e _ _ => sm3 b o e) (by rw [hTI.1]; exact sm3 _ _ e10) (by rw [hTI.2]; exact sm3 _ _ e20))
          rcases hv with z | z | ⟨z, l, e, hl⟩ | ⟨z, l, ys, e, hl, hp, hs⟩
          · exact .inl z
          · exact .inr (.inl z)
          · exact .inr (.inr (.inl ⟨z, l, e, sm3 _ _ hl⟩))
          · exact .inr (.inr (.inr ⟨z, l, ys, e, sm3 _ _ hl, hp, hs⟩))
    refine ⟨_, pss_cons (ps_set (i := 5) scLS.nd rfl (Or.inl rfl) (pe_ix ix_list (pv 4) (pe_callTy call_int1 (by rfl) T.m_int (by decide +kernel) (pa_cons (pe_cmpR op_gt (pv 0) pe_int (nomark _)) pa_nil)) (fun _ _ => rfl)))
      (pss_cons (ps_if (pt_cmpR op_eq (pe_cmpR op_in_seq (pv 3) (pv 5) (by rfl)) (pe_cmpR op_in_seq (pv 0) (pe_lst (pa_cons pe_int (pa_cons pe_int pa_nil))) (by rfl)) (nomark _))
        (pss_one (ps_ret (pe_call GR hr rfl T.gLR kR bR .nil pass0 (pa_cons (pv 0) (pa_cons (pv 1) (pa_cons (pv 2) (pa_cons (pv 3) pa_nil))))))) pss_nil)
      (pss_cons (ps_set (i := 6) scLS.nd rfl (Or.inl rfl) (pe_call GC hr rfl T.gLC kC bC .nil passL (pa_cons (pv 0) (pa_cons (pv 1) (pa_cons (pv 2) (pa_cons (pv 3) (pa_cons pe_bl pa_nil)))))))
      pF)), ?_⟩
    refine ⟨_, rfl, _, rfl, _, _, rfl, rfl, .inr ⟨_, rfl, a0, _, _, .ref m, rfl, rfl, SqL.of d.l0, hz, ?_⟩⟩
    refine ⟨_, rfl, _, rfl, m, L.map V.str, rfl, .inl (SqL.of hm), rfl, flatL L, _, rfl, Nat.le_of_lt (small_line (n := 2) (by decide)), fun l1 n1 => ⟨l1, _, rfl, .inl (SqL.of upd_same), rfl, rfl, rfl, _, rfl, ?_⟩⟩
    have s1 : Same H (upd H l1 (.lst [.int 0, .int 4])) := same_upd n1
    have same_law : ∀ {H' : Hp}, Same H H' → Q (.bl true) H' := fun sm => k _ W T0 I0 ((show LawAt a H p q a0 W T0 I0 from ⟨a1, a2, G, d⟩).same sm) (Keeps.of_same sm) (Grow.refl W H) (Nat.le_succ _) (Nat.le_succ _)
    refine ite2 (fun h => ?_) (fun h => ?_)
    · -- refused
      have h : inV (.str x) (L.map V.str) = inV (.int c) [.int 0, .int 4] := V.bl.inj (of_decide_eq_true h)
      rw [inL, in2, decide_eq_decide] at h
      refine ⟨_, rfl, _, rfl, _, rfl, _, rfl, c, p, q, .str x, T0, I0, rfl, rdT.same s1, rdI.same s1, ?_, fun H' sm => same_law (s1.trans sm)⟩
      rcases hL with ⟨h3, rfl, rfl⟩ | ⟨h3, rfl, rfl⟩
      · by_cases h0 : c = 0
        · exact .inl ⟨h0, x, rfl, h.mpr (.inl h0), xl⟩
        · exact .inr (.inl ⟨by omega, h3, ok, fun y e hy => by cases e; have := h.mp hy; omega⟩)
      · by_cases h0 : c = 4
        · exact .inr (.inr (.inl ⟨h0, x, rfl, h.mpr (.inr h0), xl⟩))
        · exact .inr (.inr (.inr ⟨by omega, c6, ok, fun y e hy => by cases e; have := h.mp hy; omega⟩))
    · -- done
      have h : ¬ (x ∈ L ↔ c = 0 ∨ c = 4) := fun z => h (decide_eq_true (congrArg V.bl (show inV (.str x) (L.map V.str) = inV (.int c) [.int 0, .int 4] by rw [inL, in2, decide_eq_decide]; exact z)))
      have gr : ∀ {G1 : Addr → Prop}, Grow G (upd H l1 (.lst [.int 0, .int 4])) G1 → Grow G H G1 := fun gg b z => by
        rcases gg b z with y | y
        · exact .inl y
        · exact .inr (upd_none y).2
      have ke : ∀ {H1 : Hp}, Keeps G (upd H l1 (.lst [.int 0, .int 4])) H1 → Keeps G H H1 := fun kk b o e n => kk b o (s1 b o e) n
      have xT : c ≤ 3 → (x ∈ T0 ↔ ¬ c = 0) := fun h3 => by
        rcases hL with ⟨_, _, rfl⟩ | ⟨z, _⟩
        · by_cases h0 : c = 0
          · exact ⟨fun z => absurd (show x ∈ L ↔ c = 0 ∨ c = 4 from ⟨fun _ => .inl h0, fun _ => z⟩) h, fun z => absurd h0 z⟩
          · refine ⟨fun _ => h0, fun _ => ?_⟩
            by_cases z : x ∈ L
            · exact z
            · exact absurd (show x ∈ L ↔ c = 0 ∨ c = 4 from ⟨fun y => absurd y z, fun y => by omega⟩) h
        · omega
      have xI : 3 < c → (x ∈ I0 ↔ ¬ c = 4) := fun h3 => by
        rcases hL with ⟨z, _⟩ | ⟨_, _, rfl⟩
        · omega
        · by_cases h0 : c = 4
          · exact ⟨fun z => absurd (show x ∈ L ↔ c = 0 ∨ c = 4 from ⟨fun _ => .inr h0, fun _ => z⟩) h, fun z => absurd h0 z⟩
          · refine ⟨fun _ => h0, fun _ => ?_⟩
            by_cases z : x ∈ L
            · exact z
            · exact absurd (show x ∈ L ↔ c = 0 ∨ c = 4 from ⟨fun y => absurd y z, fun y => by omega⟩) h
      refine ⟨_, rfl, _, rfl, _, rfl, _, rfl, c, p, q, .str x, false, T0, I0, rfl, .inr ⟨rfl, x, G, rfl, d.pr.same s1, c0, c6, xl, hT, hI, nT, fun h0 => ?_, fun h0 => ?_, fun h0 => ?_, fun h0 => ?_, fun h0 => ?_, fun h0 => ?_, fun h0 => ?_⟩⟩
      · have z : x ∉ T0 := fun y => (xT (by omega)).mp y h0
        exact ⟨z, fun H1 G1 pr kk gg => hF _ H1 G1 _ _ pr (ke kk) (gr gg) (.inl ⟨h0, z, rfl, rfl⟩) (.inl ⟨rfl, by omega⟩)⟩
      · have z : x ∈ T0 := (xT (by omega)).mpr (by omega)
        exact ⟨z, fun H1 G1 pr kk gg => hF _ H1 G1 _ _ pr (ke kk) (gr gg) (.inr (.inl ⟨h0, z, rfl, rfl⟩)) (.inl ⟨rfl, by omega⟩)⟩
      · have z : x ∈ T0 := (xT (by omega)).mpr (by omega)
        exact ⟨z, fun H1 l sm n e => hF _ H1 G _ _ (d.pr.same (s1.trans sm)) (Keeps.of_same (s1.trans sm)) (Grow.refl G H) (.inr (.inr (.inr (.inr ⟨by omega, rfl, rfl⟩)))) (.inr (.inr (.inl ⟨h0, l, rfl, e⟩)))⟩
      · have z : x ∈ T0 := (xT (by omega)).mpr (by omega)
        exact ⟨z, fun H1 sm => hF _ H1 G _ _ (d.pr.same (s1.trans sm)) (Keeps.of_same (s1.trans sm)) (Grow.refl G H) (.inr (.inr (.inr (.inr ⟨by omega, rfl, rfl⟩)))) (.inr (.inl ⟨rfl, h0⟩))⟩
      · have z : x ∉ I0 := fun y => (xI (by omega)).mp y h0
        exact ⟨z, fun H1 G1 pr kk gg => hF _ H1 G1 _ _ pr (ke kk) (gr gg) (.inr (.inr (.inl ⟨h0, z, rfl, rfl⟩))) (.inl ⟨rfl, by omega⟩)⟩
      · have z : x ∈ I0 := (xI (by omega)).mpr (by omega)
        exact ⟨z, fun H1 G1 pr kk gg => hF _ H1 G1 _ _ pr (ke kk) (gr gg) (.inr (.inr (.inr (.inl ⟨h0, z, rfl, rfl⟩)))) (.inl ⟨rfl, by omega⟩)⟩
      · have z : x ∈ I0 := (xI (by omega)).mpr (by omega)
        exact ⟨z, fun H1 l ys sm n e hp hs => hF _ H1 G _ _ (d.pr.same (s1.trans sm)) (Keeps.of_same (s1.trans sm)) (Grow.refl G H) (.inr (.inr (.inr (.inr ⟨by omega, rfl, rfl⟩)))) (.inr (.inr (.inr ⟨h0, l, ys, rfl, e, hp, hs⟩)))⟩
end
end K24
/-! K24L6: the law. -/
namespace K24
open PySem PySem.Spec PyProof.Rows L2

abbrev nLL : List Str := ["_law_script", "_law_draws_here", "_law_pool_here", "_law_threads", "_law_index", "_law_there", "_law_k", "_law_name", "_law_call", "_law_other"]
abbrev AL (a : Ads) (cdv : Value) (A : Around) (s : Shared) : Around := A.deeper (envOfC "law" (defScope sLL) s.heap.objs.size a.fLL cdv)
abbrev XL (P : Program) (w : World) (K : PySem.W.Frag) (mg : Str → Option Value) (base : Heap) (a : Ads) (cdv : Value) (A : Around) (outer : List Env) (s : Shared) (H : Hp) (E : XK) : Cx := (cxOf CX0 P w K mg base nLL "law" (defScope sLL) a.fLL cdv A outer s H E).nox
def forBody : Stmt → List Stmt
  | .For _ _ b _ _ => b
  | _ => []
theorem lls_same {K : PySem.W.Frag} {H H' : Hp} (s : Same H H') : ∀ (ys : List Str) (vs : List V), DpAll K H vs (ys.map fun y => PyData.list [.str y]) → DpAll K H' vs (ys.map fun y => PyData.list [.str y])
  | [], _, h => by
    cases h
    exact .nil
  | y :: ys, _, h => by
    cases h with
    | cons h1 h2 =>
      cases h1 with
      | lst hs ha =>
        cases ha with
        | cons q1 q2 =>
          cases q1
          cases q2
          exact .cons (.lst (s.seq hs) (.cons (.str y) .nil)) (lls_same s ys _ h2)
theorem ll_same {K : PySem.W.Frag} {H H' : Hp} {l : Addr} {ys : List Str} (s : Same H H') (h : Dp K H (.ref l) (.list (ys.map fun y => PyData.list [.str y]))) : Dp K H' (.ref l) (.list (ys.map fun y => PyData.list [.str y])) := by
  cases h with
  | lst hs ha => exact .lst (s.seq hs) (lls_same s ys _ ha)
section
variable {P : Program} {w : World} {K : PySem.W.Frag} {mg : Str → Option Value} {base : Heap} {a : Ads} {cdv : Value} {A : Around} {outer : List Env} {s : Shared} {Hz : Hp} {E : XK}
/-- the end: the one that answers a name that isn't there -/
theorem ll9 (T : Txt K mg a) (hr : Room 6 (AL a cdv A s)) : ∃ t, PSs (XL P w K mg base a cdv A outer s Hz E) ((defBody sLL).drop 9) t ∧
    ∀ (D : Ends) (H : Hp) (v0 v1 v2 v6 v7 v8 v9 : Option V) (p q a0 a1 a2 : Addr) (T0 I0 : List Str), ThrOne a.CT H p (T0 ++ [tF]) tF → IdxRd a.CI H q I0 → H a0 = some (.lst [.ref a1, .ref a2]) → H a1 = some (.lst (T0.map V.str)) → T0.length ≤ 60 → (∀ y ∈ T0, Good y) →
      (∀ H', D.rt (.bl true) H') → t D [v0, v1, v2, some (.ref p), some (.ref q), some (.ref a0), v6, v7, v8, v9] H := by
  obtain ⟨fdR, GR, bR⟩ := ok_LR (P := P) (w := w) (base := base) T
  obtain ⟨fdR', FR⟩ := T.FLR
  have kR := FR.kp
  have GR := GR.mono (k := 6) (by decide)
  obtain ⟨fdTR, GTR, bTR⟩ := ok_TR (P := P) (w := w) (base := base) T
  have GTR := GTR.mono (k := 6) (by decide)
  obtain ⟨fdTN, GTN, bTN⟩ := ok_TN (P := P) (w := w) (base := base) T
  have GTN := GTN.mono (k := 6) (by decide)
  refine ⟨_, pss_cons (ps_for PassesOwn.never rfl (pi_list (pe_lst (pa_cons pe_int (pa_cons pe_int (pa_cons pe_int (pa_cons pe_int pa_nil)))))) (pg_name (i := 8) scLL.nd rfl (Or.inl rfl))
      (pss_one (ps_if (pt_not (pt_val (pe_call GR hr rfl T.gLR kR bR .nil pass0 (pa_cons (pv 8) (pa_cons (pv 3) (pa_cons (pv 4) (pa_cons pe_str pa_nil))))))) (pss_one (ps_ret pe_bl)) pss_nil)))
    (pss_one (ps_ret (pe_and (pe_cmpR (op_eqD hr.units) (pe_meth (pv 3) T.clT T.MTR GTR hr bTR .nil passL (pa_cons pe_str pa_nil)) (pe_lst (pa_cons pe_str pa_nil)) (nomark _))
      (pe_one (pe_cmpR (op_eqD hr.units) (pe_meth0 (pv 3) T.clT T.MTN GTN hr bTN .nil pass0) (pe_callB cr_sortedS (by rfl) T.m_sorted (by decide +kernel) (pa_cons (pe_op op_cat (pe_ix ix_list (pv 5) pe_int (fun _ _ => rfl)) (pe_lst (pa_cons pe_str pa_nil))) pa_nil)) (nomark _)))))),
    fun D H v0 v1 v2 v6 v7 v8 v9 p q a0 a1 a2 T0 I0 one rdI e0 e1 hlen gT k => ?_⟩
  have oF : PyData.strOk tF = true := by decide +kernel
  have okF : NameOk (.str tF) := .inr (.inr ⟨tF, rfl, by decide +kernel⟩)
  have okZ : NameOk (.str tZ) := .inr (.inr ⟨tZ, rfl, by decide +kernel⟩)
  have outZ : Out (.str tZ) (T0 ++ [tF]) := fun y e hy => by
    cases e
    rcases List.mem_append.mp hy with z | z
    · exact (gT _ z).nz rfl
    · exact absurd (List.mem_singleton.mp z) (by decide +kernel)
  have mF : tF ∈ T0 ++ [tF] := List.mem_append_right _ (List.mem_singleton.mpr rfl)
  have len1 : (T0 ++ [tF]).length < 64 := by rw [List.length_append]; show T0.length + 1 < 64; omega
  refine ⟨Nat.le_of_lt (small_line (n := 4) (by decide)), fun l0 n0 => ⟨l0, rfl, ⟨_, SqL.of upd_same⟩, for_list (K := K) (a := l0) (xs := [.int 2, .int 3, .int 1, .int 2]) (fun i σ Hc => ∃ v : Option V, σ = [v0, v1, v2, some (.ref p), some (.ref q), some (.ref a0), v6, v7, v, v9] ∧ Same H Hc ∧ Hc l0 = some (.lst [.int 2, .int 3, .int 1, .int 2]))
    ⟨v8, rfl, same_upd n0, upd_same⟩ (fun i σ Hc _ ⟨_, _, _, e⟩ => SqL.of e) ?_ ?_⟩⟩
  · rintro i y σ Hc hi ⟨v, rfl, sm, e⟩
    obtain ⟨c, rfl, h1, h3⟩ : ∃ c : Int, y = .int c ∧ 1 ≤ c ∧ c ≤ 3 := by
      have hy := List.mem_of_getElem? hi
      simp only [List.mem_cons, List.not_mem_nil, or_false] at hy
      rcases hy with rfl | rfl | rfl | rfl
      · exact ⟨2, rfl, by decide, by decide⟩
      · exact ⟨3, rfl, by decide, by decide⟩
      · exact ⟨1, rfl, by decide, by decide⟩
      · exact ⟨2, rfl, by decide, by decide⟩
    exact ⟨_, rfl, _, rfl, _, rfl, c, p, q, .str tZ, T0 ++ [tF], I0, rfl, one.rd.same sm, rdI.same sm, .inr (.inl ⟨h1, h3, okZ, outZ⟩), fun H' sm' => ⟨_, rfl, iteF ⟨some (.int c), rfl, sm.trans sm', sm' _ _ e⟩⟩⟩
  · rintro σ Hc ⟨v, rfl, sm, e⟩
    obtain ⟨dx, d1, d2, d3, d4, n, f, hp, _⟩ := id (one.rd.same sm)
    refine ⟨_, rfl, p, dx, _, rfl, hp, no_meth _ _ _ _ _ (by decide +kernel), p, .str tF, T0 ++ [tF], rfl, one.rd.same sm, okF, (fun z => absurd mF (z tF rfl)), fun _ => ⟨tF, rfl, one.same sm, fun H' l sm' hn hl => ?_⟩⟩
    refine ⟨one_line, fun l2 n2 => ?_⟩
    have shF : SeqAt.shaped (.list [.str tF]) = true := ls_shaped (ys := [tF]) fun y hy => by rw [List.mem_singleton.mp hy]; exact oF
    refine ⟨.list [.str tF], .list [.str tF], .lst (SqL.of ((upd_ne (ne_of_none hl n2)).trans hl)) (.cons (.str _) .nil), .lst (SqL.of upd_same) (.cons (.str _) .nil), shF, shF, _, rfl, ?_⟩
    rw [eqvR shF]
    refine iteT ?_
    have s2 : Same H (upd H' l2 (.lst [.str tF])) := same_upd2 (sm.trans sm') n2
    obtain ⟨dx', d1', d2', d3', d4', n', f', hp', _⟩ := id (one.rd.same s2)
    refine ⟨_, rfl, p, dx', _, rfl, hp', no_meth _ _ _ _ _ (by decide +kernel), p, T0 ++ [tF], rfl, one.rd.same s2, len1, fun H3 l3 ys sm3 hn3 hl3 hp3 hs3 => ?_⟩
    have s3 := s2.trans sm3
    refine ⟨_, rfl, a0, _, _, .ref a1, rfl, rfl, SqL.of (s3 _ _ e0), at_of (j := 0) rfl rfl, one_line, fun l4 n4 => ⟨a1, l4, T0.map V.str, [.str tF], rfl, rfl, same_upd2 s3 n4 _ _ e1, upd_same, Nat.le_of_lt (small_line (n := T0.length + 1) (by omega) |> fun z => by rw [List.length_map]; exact z), fun l5 n5 => ?_⟩⟩
    refine ⟨l5, T0 ++ [tF], rfl, SqL.of (upd_same.trans (by rw [List.map_append]; rfl)), len1, fun zs l6 hp6 hs6 n6 => ?_⟩
    have e : zs = ys := sorted_one hp6 hp3 hs6 hs3
    subst e
    have sh : SeqAt.shaped (.list (zs.map PyData.str)) = true := ls_shaped fun y hy => by
      rcases List.mem_append.mp (hp3.mem_iff.mp hy) with z | z
      · exact (gT _ z).ok
      · rw [List.mem_singleton.mp z]; exact oF
    refine ⟨.list (zs.map PyData.str), .list (zs.map PyData.str), .lst (SqL.of (same_upd2 (same_upd2 (same_upd n4) n5) n6 _ _ hl3)) (dpStrs zs), .lst (SqL.of upd_same) (dpStrs zs), sh, sh, ?_⟩
    rw [eqvR sh]
    exact k _
/-- each name stands alone; then one comes that answers another -/
theorem ll7 (T : Txt K mg a) (hr : Room 6 (AL a cdv A s)) : ∃ t, PSs (XL P w K mg base a cdv A outer s Hz E) ((defBody sLL).drop 7) t ∧
    ∀ (D : Ends) (H : Hp) (v0 v1 v2 v6 v7 v8 v9 : Option V) (p q a0 : Addr) (W : Addr → Prop) (T0 I0 : List Str), LawAt a H p q a0 W T0 I0 → T0.length ≤ 60 →
      (∀ H', D.rt (.bl true) H') → t D [v0, v1, v2, some (.ref p), some (.ref q), some (.ref a0), v6, v7, v8, v9] H := by
  obtain ⟨t9, p9, h9⟩ := ll9 (P := P) (w := w) (base := base) (cdv := cdv) (A := A) (outer := outer) (s := s) (Hz := Hz) (E := E) T hr
  obtain ⟨fdTL, GTL, bTL⟩ := ok_TL (P := P) (w := w) (base := base) T
  have GTL := GTL.mono (k := 6) (by decide)
  obtain ⟨fdA, GA, bA, _⟩ := ok_TA (P := P) (w := w) (base := base) T
  have GA := GA.mono (k := 6) (by decide)
  refine ⟨_, pss_cons (ps_if (pt_cmpR (op_neD hr.units) (pe_meth0 (pv 3) T.clT T.MTL GTL hr bTL .nil pass0)
        (pe_lc (own := [("_law_name", 7)]) (g := gName 7) (tt := tYes) (te := tLst (tCons (tVar 7) tNil)) rfl scLL.nd (pi_list (pe_callB cr_sortedS (by rfl) T.m_sorted (by decide +kernel) (pa_cons (pe_ix ix_list (pv 5) pe_int (fun _ _ => rfl)) pa_nil)))
          (blkOk_by (own := [("_law_name", 7)]) (N := nLL) (sc := defScope sLL) (by decide +kernel)) (fun _ _ _ _ _ => pg_name (i := 7) scLL.nd rfl (Or.inl rfl))
          (fun _ _ _ _ _ => by exact pts_nil) (fun _ _ _ _ _ => by exact (pe_lst (pa_cons (pv 7) pa_nil)))) (nomark _)) (pss_one (ps_ret pe_bl)) pss_nil)
    (pss_cons (ps_expr (pe_meth (pv 3) T.clT T.MTA GA hr bA .nil passL (pa_cons pe_str (pa_cons pe_str pa_nil)))) p9),
    fun D H v0 v1 v2 v6 v7 v8 v9 p q a0 W T0 I0 law hlen k => ?_⟩
  obtain ⟨a1, a2, G, d⟩ := id law
  obtain ⟨FT, FI, ht, hi, dd, hg⟩ := id d.pr
  obtain ⟨dx, d1, d2, d3, d4, n, f, hp, _⟩ := id ht.rd
  refine ⟨_, rfl, p, dx, _, rfl, hp, no_meth _ _ _ _ _ (by decide +kernel), p, FT, T0, rfl, ht, by omega, fun y hy => Nat.le_trans (d.gT y hy).le (by decide), fun H1 l ys s1 hl hpy hsy dp1 => ?_⟩
  refine ⟨_, rfl, a0, _, _, .ref a1, rfl, rfl, SqL.of (s1 _ _ d.l0), at_of (j := 0) rfl rfl, a1, T0, rfl, SqL.of (s1 _ _ d.l1), by omega, fun zs l2 hpz hsz n2 => ?_⟩
  have e : zs = ys := sorted_one hpz hpy hsz hsy
  subst e
  have lz : zs.length ≤ 60 := by rw [hpz.length_eq]; exact hlen
  refine ⟨l2, rfl, ⟨_, SqL.of upd_same⟩, fun Dl hD => ?_⟩
  have l2D : l2 ≠ Dl := (upd_none hD).1.symm
  have s2 : Same H1 (upd H1 l2 (.lst (zs.map V.str))) := same_upd n2
  refine lc_list (K := K) (a := l2) (xs := zs.map V.str) (fun i Hc => ∃ rs : List Addr, Hc Dl = some (.lst (rs.map V.ref)) ∧ rs.length = i ∧ (∀ (j : Nat) (r : Addr) (y : Str), rs[j]? = some r → zs[j]? = some y → Hc r = some (.lst [.str y])) ∧ Same (upd H1 l2 (.lst (zs.map V.str))) Hc)
    ⟨[], upd_same, rfl, fun j r y h _ => by simp at h, same_upd hD⟩ (fun i Hc _ ⟨rs, _, _, _, sm⟩ => SqL.of (sm _ _ upd_same)) ?_ ?_
  · rintro i u Hc hiu ⟨rs, hDl, hrs, hr', sm⟩
    obtain ⟨y, hy, rfl⟩ := str_get hiu
    have il : i < zs.length := (List.getElem?_eq_some_iff.mp hy).1
    refine ⟨rfl, _, rfl, one_line, fun r nr => ?_⟩
    have Dr : Dl ≠ r := ne_of_none hDl nr
    refine ⟨rs.map V.ref, (upd_ne Dr).trans hDl, by rw [List.length_map]; exact small_line (by omega), rs ++ [r], by rw [upd_same, List.map_append]; rfl, by rw [List.length_append, hrs]; rfl, fun j r2 y2 h1 h2 => ?_, fun b o e => ?_⟩
    · by_cases hj : j < rs.length
      · rw [List.getElem?_append_left hj] at h1
        have e1 := hr' j r2 y2 h1 h2
        have z1 : r2 ≠ r := ne_of_none e1 nr
        have z2 : r2 ≠ Dl := fun z => by
          rw [z, hDl] at e1
          cases rs with
          | nil => exact absurd hj (Nat.not_lt_zero _)
          | cons r0 rs => cases e1
        rw [upd_ne z2, upd_ne z1]
        exact e1
      · have hj2 : (rs ++ [r])[j]? = some r2 := h1
        have jl : j < (rs ++ [r]).length := (List.getElem?_eq_some_iff.mp hj2).1
        rw [List.length_append] at jl
        have jl : j < rs.length + 1 := jl
        have ej : j = rs.length := by omega
        subst ej
        rw [List.getElem?_append_right (Nat.le_refl _), Nat.sub_self] at h1
        have h1 : r = r2 := Option.some.inj h1
        subst h1
        rw [hrs, hy] at h2
        rw [upd_ne Dr.symm, upd_same, Option.some.inj h2]
    · have e1 := sm b o e
      have z1 : b ≠ r := ne_of_none e1 nr
      have z2 : b ≠ Dl := ne_of_none e hD
      rw [upd_ne z2, upd_ne z1]
      exact e1
  · rintro Hc ⟨rs, hDl, hrs, hr', sm⟩
    rw [List.length_map] at hrs
    have sA : Same H1 Hc := s2.trans sm
    have sh : SeqAt.shaped (.list (zs.map fun y => PyData.list [.str y])) = true := lls_shaped fun y hy => (d.gT y (hpz.mem_iff.mp hy)).ok
    refine ⟨_, _, ll_same sA dp1, .lst (SqL.of hDl) (dpAll hrs hr'), sh, sh, _, rfl, ?_⟩
    rw [eqvR sh]
    refine iteF ?_
    -- the new one
    have s3 : Same H Hc := s1.trans sA
    have ht3 := ht.same s3
    have hi3 := hi.same s3
    obtain ⟨dx', d1', d2', d3', d4', n', f', hp', _⟩ := id ht3.rd
    refine ⟨_, rfl, p, dx', _, rfl, hp', no_meth _ _ _ _ _ (by decide +kernel), p, tF, tZ, T0, rfl, ht3.rd, by decide +kernel, fun z => absurd rfl (d.gT _ z).nf, fun _ => ⟨FT, ht3, by omega, .inr ⟨by decide +kernel, by decide +kernel, fun z => (d.gT _ z).nz rfl, fun H4 one kk => ?_⟩⟩⟩
    exact h9 D H4 _ _ _ _ _ _ _ p q a0 a1 a2 T0 I0 one (hi3.keep (keeps_at kk hi3.lives dd)).rd (kk _ _ (s3 _ _ d.l0) fun z => d.n0 ((hg _).mpr (.inl z))) (kk _ _ (s3 _ _ d.l1) fun z => d.n1 ((hg _).mpr (.inl z))) hlen d.gT k
theorem three_at {i : Int} (h0 : 0 ≤ i) (h1 : i < 3) : ∃ v, atI [V.non, V.int 0, V.int 7] i = some v ∧ (v = .non ∨ v = .int 0 ∨ v = .int 7) := by
  have h : i = 0 ∨ i = 1 ∨ i = 2 := by omega
  rcases h with rfl | rfl | rfl
  · exact ⟨_, at_of (j := 0) rfl rfl, .inl rfl⟩
  · exact ⟨_, at_of (j := 1) rfl rfl, .inr (.inl rfl)⟩
  · exact ⟨_, at_of (j := 2) rfl rfl, .inr (.inr rfl)⟩
/-- what is no name is refused -/
theorem ll6 (T : Txt K mg a) (hr : Room 6 (AL a cdv A s)) : ∃ t, PSs (XL P w K mg base a cdv A outer s Hz E) ((defBody sLL).drop 6) t ∧
    ∀ (D : Ends) (H : Hp) (v0 v2 v6 v7 v8 v9 : Option V) (ld p q a0 : Addr) (ds : List Int) (W : Addr → Prop) (T0 I0 : List Str), LawAt a H p q a0 W T0 I0 → T0.length ≤ 60 → H ld = some (.lst (ds.map V.int)) → ds.length = 60 →
      (∀ H', D.rt (.bl true) H') → t D [v0, some (.ref ld), v2, some (.ref p), some (.ref q), some (.ref a0), v6, v7, v8, v9] H := by
  obtain ⟨t7, p7, h7⟩ := ll7 (P := P) (w := w) (base := base) (cdv := cdv) (A := A) (outer := outer) (s := s) (Hz := Hz) (E := E) T hr
  obtain ⟨fdR, GR, bR⟩ := ok_LR (P := P) (w := w) (base := base) T
  obtain ⟨fdR', FR⟩ := T.FLR
  have kR := FR.kp
  have GR := GR.mono (k := 6) (by decide)
  refine ⟨_, pss_cons (ps_for PassesOwn.never rfl (pi_list (pe_lst (pa_cons pe_int (pa_cons pe_int (pa_cons pe_int (pa_cons pe_int (pa_cons pe_int pa_nil))))))) (pg_name (i := 8) scLL.nd rfl (Or.inl rfl))
      (pss_one (ps_if (pt_not (pt_val (pe_call GR hr rfl T.gLR kR bR .nil pass0 (pa_cons (pv 8) (pa_cons (pv 3) (pa_cons (pv 4) (pa_cons (pe_ix ix_list (pe_lst (pa_cons pe_non (pa_cons pe_int (pa_cons pe_int pa_nil))))
        (pe_op op_mod (pe_op op_fdiv (pe_ix ix_list (pv 1) pe_int (fun _ _ => rfl)) (pe_op op_add pe_int (pv 8))) pe_int) (fun _ _ => rfl)) pa_nil))))))) (pss_one (ps_ret pe_bl)) pss_nil))) p7,
    fun D H v0 v2 v6 v7 v8 v9 ld p q a0 ds W T0 I0 law hlen hld hds k => ?_⟩
  obtain ⟨a1, a2, G, d⟩ := id law
  obtain ⟨FT, FI, ht, hi, dd, hg⟩ := id d.pr
  refine ⟨Nat.le_of_lt (small_line (n := 5) (by decide)), fun l0 n0 => ⟨l0, rfl, ⟨_, SqL.of upd_same⟩, for_list (K := K) (a := l0) (xs := [.int 1, .int 2, .int 3, .int 5, .int 6]) (fun i σ Hc => ∃ v : Option V, σ = [v0, some (.ref ld), v2, some (.ref p), some (.ref q), some (.ref a0), v6, v7, v, v9] ∧ Same H Hc ∧ Hc l0 = some (.lst [.int 1, .int 2, .int 3, .int 5, .int 6]))
    ⟨v8, rfl, same_upd n0, upd_same⟩ (fun i σ Hc _ ⟨_, _, _, e⟩ => SqL.of e) ?_ ?_⟩⟩
  · rintro i y σ Hc hiy ⟨v, rfl, sm, e⟩
    obtain ⟨c, rfl, hc⟩ : ∃ c : Int, y = .int c ∧ ((1 ≤ c ∧ c ≤ 3) ∨ (5 ≤ c ∧ c ≤ 6)) := by
      have hy := List.mem_of_getElem? hiy
      simp only [List.mem_cons, List.not_mem_nil, or_false] at hy
      rcases hy with rfl | rfl | rfl | rfl | rfl
      · exact ⟨1, rfl, .inl ⟨by decide, by decide⟩⟩
      · exact ⟨2, rfl, .inl ⟨by decide, by decide⟩⟩
      · exact ⟨3, rfl, .inl ⟨by decide, by decide⟩⟩
      · exact ⟨5, rfl, .inr ⟨by decide, by decide⟩⟩
      · exact ⟨6, rfl, .inr ⟨by decide, by decide⟩⟩
    refine ⟨_, rfl, _, rfl, _, rfl, Nat.le_of_lt (small_line (n := 3) (by decide)), fun l1 n1 => ?_⟩
    have s1 : Same H (upd Hc l1 (.lst [.non, .int 0, .int 7])) := same_upd2 sm n1
    obtain ⟨nv, hat, hnv⟩ := three_at (i := (ds[3]'(by omega) / (1 + c)) % 3) (Int.emod_nonneg _ (by decide)) (Int.emod_lt_of_pos _ (by decide))
    have okv : NameOk nv := by
      rcases hnv with z | z | z
      · exact .inl z
      · exact .inr (.inl ⟨0, z, by decide, by decide⟩)
      · exact .inr (.inl ⟨7, z, by decide, by decide⟩)
    have out : ∀ L : List Str, Out nv L := fun L y e => by
      rcases hnv with z | z | z <;> (rw [z] at e; cases e)
    refine ⟨_, rfl, ld, _, _, _, rfl, rfl, SqL.of (s1 _ _ hld), at_of (j := 3) rfl (int_get (by omega)), _, rfl, _, _, rfl, rfl, _, _, rfl, rfl, (by show (0 : Int) < 1 + c ∧ 1 + c < 1073741824; omega), _, _, rfl, rfl, (by show (0 : Int) < 3; decide), l1, _, _, nv, rfl, rfl, SqL.of upd_same, hat, ?_⟩
    refine ⟨c, p, q, nv, T0, I0, rfl, ht.rd.same s1, hi.rd.same s1, ?_, fun H' sm' => ⟨_, rfl, iteF ⟨some (.int c), rfl, s1.trans sm', sm' _ _ (same_upd n1 _ _ e)⟩⟩⟩
    rcases hc with ⟨z1, z2⟩ | ⟨z1, z2⟩
    · exact .inr (.inl ⟨z1, z2, okv, out T0⟩)
    · exact .inr (.inr (.inr ⟨z1, z2, okv, out I0⟩))
  · rintro σ Hc ⟨v, rfl, sm, e⟩
    exact h7 D Hc _ _ _ _ _ _ _ p q a0 W T0 I0 (law.same sm) hlen k
end
end K24
/-! K24L7: the law's first loop. -/
namespace K24
open PySem PySem.Spec PyProof.Rows L2

structure LInvD (a : Ads) (H : Hp) (p q a0 ld lp : Addr) (ds : List Int) (xs : List Str) (n : Nat) (W : Addr → Prop) (T I : List Str) : Prop where
  law : LawAt a H p q a0 W T I
  hd : H ld = some (.lst (ds.map V.int))
  hp : H lp = some (.lst (xs.map V.str))
  nd : ¬ W ld
  np : ¬ W lp
  lT : T.length ≤ n
  lI : I.length ≤ n
def LInv (a : Ads) (H : Hp) (p q a0 ld lp : Addr) (ds : List Int) (xs : List Str) (n : Nat) : Prop := ∃ W T I, LInvD a H p q a0 ld lp ds xs n W T I
section
variable {a : Ads} {H H' : Hp} {p q a0 ld lp : Addr} {ds : List Int} {xs : List Str} {n m : Nat} {W W' : Addr → Prop} {T I T' I' : List Str}
theorem LInv.mono (h : LInv a H p q a0 ld lp ds xs n) (l : n ≤ m) : LInv a H p q a0 ld lp ds xs m := by
  obtain ⟨W, T, I, d⟩ := h
  exact ⟨W, T, I, { d with lT := Nat.le_trans d.lT l, lI := Nat.le_trans d.lI l }⟩
theorem LInv.same (h : LInv a H p q a0 ld lp ds xs n) (s : Same H H') : LInv a H' p q a0 ld lp ds xs n := by
  obtain ⟨W, T, I, d⟩ := h
  exact ⟨W, T, I, { d with law := d.law.same s, hd := s _ _ d.hd, hp := s _ _ d.hp }⟩
theorem LInvD.step (d : LInvD a H p q a0 ld lp ds xs n W T I) (law : LawAt a H' p q a0 W' T' I') (k : Keeps W H H') (g : Grow W H W') (l1 : T'.length ≤ T.length + 1) (l2 : I'.length ≤ I.length + 1) : LInv a H' p q a0 ld lp ds xs (n + 1) := by
  have no : ∀ b o, H b = some o → ¬ W b → ¬ W' b := fun b o e n z => by
    rcases g b z with y | y
    · exact n y
    · rw [e] at y; cases y
  exact ⟨W', T', I', ⟨law, k _ _ d.hd d.nd, k _ _ d.hp d.np, no _ _ d.hd d.nd, no _ _ d.hp d.np, Nat.le_trans l1 (Nat.succ_le_succ d.lT), Nat.le_trans l2 (Nat.succ_le_succ d.lI)⟩⟩
end
abbrev slots (v0 : Option V) (ld lp p q a0 : Addr) (i : Nat) (x : Str) (c : Int) (o : Option V) : L2.St := [v0, some (.ref ld), some (.ref lp), some (.ref p), some (.ref q), some (.ref a0), some (.int (0 + (i : Int))), some (.str x), some (.int c), o]
def bodyLL : List Stmt := forBody ((defBody sLL).getD 5 (.Pass ⟨0, 0, 0, 0⟩))
theorem gI_Z {I : List Str} (h : ∀ y ∈ I, Good y) : gI I tZ = [] := by
  unfold gI
  rw [List.filter_eq_nil_iff]
  intro y hy z
  have z := of_decide_eq_true z
  rcases mem_wl.mp z with e | e
  · exact (h y hy).nz e.symm
  · exact absurd e (by decide +kernel)
section
variable {P : Program} {w : World} {K : PySem.W.Frag} {mg : Str → Option Value} {base : Heap} {a : Ads} {cdv : Value} {A : Around} {outer : List Env} {s : Shared} {Hz : Hp} {E : XK}
theorem b7 (T : Txt K mg a) (hr : Room 6 (AL a cdv A s)) : ∃ t, PSs (XL P w K mg base a cdv A outer s Hz E) (bodyLL.drop 7) t ∧
    ∀ (D : Ends) (H : Hp) (v0 o : Option V) (ld lp p q a0 : Addr) (ds : List Int) (xs : List Str) (i n : Nat) (x : Str) (c : Int), LInv a H p q a0 ld lp ds xs n → n ≤ 50 → i ≤ 14 → ds.length = 60 → Good x → 0 ≤ c → c ≤ 6 →
      (∀ H', LInv a H' p q a0 ld lp ds xs (n + 1) → D.nx (slots v0 ld lp p q a0 i x c o) H') → t D (slots v0 ld lp p q a0 i x c o) H := by
  obtain ⟨fdS, GS, bS⟩ := ok_LS (P := P) (w := w) (base := base) T
  obtain ⟨fdS', FS⟩ := T.FLS
  have kS := FS.kp
  refine ⟨_, pss_one (ps_if (PW.pt (pw_and (pt_cmpR op_gt (pe_op op_mod (pe_ix ix_list (pv 1) (pe_op op_add pe_int (pe_op op_mul pe_int (pv 6))) (fun _ _ => rfl)) pe_int) pe_int (nomark _))
      (pw_and1 (pt_not (pt_val (pe_call GS hr rfl T.gLS kS bS .nil pass0 (pa_cons (pv 8) (pa_cons (pv 3) (pa_cons (pv 4) (pa_cons (pv 7) (pa_cons (pv 5) pa_nil)))))))))))
      (pss_one (ps_ret pe_bl)) pss_nil),
    fun D H v0 o ld lp p q a0 ds xs i n x c inv hn hi hds gx c0 c6 k => ?_⟩
  obtain ⟨W, T0, I0, d⟩ := id inv
  refine ⟨_, rfl, _, rfl, _, _, rfl, rfl, .inl ⟨by decide, by decide⟩, _, _, rfl, rfl, ld, _, _, _, rfl, rfl, SqL.of d.hd, at_of (j := (6 + 3 * (0 + (i : Int))).toNat) (by omega) (int_get (by omega)), _, _, rfl, rfl, (by show (0 : Int) < 3; decide), _, _, rfl, rfl, _, rfl, ?_⟩
  refine ite2 (fun _ => ?_) (fun _ => ?_)
  · exact ⟨_, rfl, _, rfl, _, rfl, _, rfl, _, rfl, c, p, q, x, a0, W, T0, I0, rfl, c0, c6, gx, d.law, Nat.le_trans d.lT (by omega), Nat.le_trans d.lI (by omega), fun H' W' T' I' law kw gw l1 l2 => ⟨_, rfl, iteF (k H' (d.step law kw gw l1 l2))⟩⟩
  · exact iteF (k H (inv.mono (Nat.le_succ n)))
theorem b5 (T : Txt K mg a) (hr : Room 6 (AL a cdv A s)) : ∃ t, PSs (XL P w K mg base a cdv A outer s Hz E) (bodyLL.drop 5) t ∧
    ∀ (D : Ends) (H : Hp) (v0 o : Option V) (ld lp p q a0 : Addr) (ds : List Int) (xs : List Str) (i n : Nat) (x : Str) (c : Int), LInv a H p q a0 ld lp ds xs n → n ≤ 50 → i ≤ 14 → ds.length = 60 → Good x → 0 ≤ c → c ≤ 6 →
      (∀ H', LInv a H' p q a0 ld lp ds xs (n + 1) → D.nx (slots v0 ld lp p q a0 i x c o) H') → t D (slots v0 ld lp p q a0 i x c o) H := by
  obtain ⟨t7, p7, h7⟩ := b7 (P := P) (w := w) (base := base) (cdv := cdv) (A := A) (outer := outer) (s := s) (Hz := Hz) (E := E) T hr
  obtain ⟨fdTN, GTN, bTN⟩ := ok_TN (P := P) (w := w) (base := base) T
  have GTN := GTN.mono (k := 6) (by decide)
  obtain ⟨fdTW, GTW, bTW⟩ := ok_TW (P := P) (w := w) (base := base) T
  have GTW := GTW.mono (k := 6) (by decide)
  obtain ⟨fdIH, GIH, bIH⟩ := ok_IH (P := P) (w := w) (base := base) T
  have GIH := GIH.mono (k := 6) (by decide)
  obtain ⟨fdIL, GIL, bIL⟩ := ok_IL (P := P) (w := w) (base := base) T
  have GIL := GIL.mono (k := 6) (by decide)
  refine ⟨_, pss_cons (ps_if (PW.pt (pw_or (pt_cmpR (op_neD hr.units) (pe_meth0 (pv 3) T.clT T.MTN GTN hr bTN .nil pass0) (pe_callB cr_sortedS (by rfl) T.m_sorted (by decide +kernel) (pa_cons (pe_ix ix_list (pv 5) pe_int (fun _ _ => rfl)) pa_nil)) (nomark _))
        (pw_or1 (pt_cmpR (op_neD hr.units) (pe_meth (pv 4) T.clI T.MIH GIH hr bIH .nil pass0 (pa_cons pe_str pa_nil)) (pe_callB cr_sortedS (by rfl) T.m_sorted (by decide +kernel) (pa_cons (pe_ix ix_list (pv 5) pe_int (fun _ _ => rfl)) pa_nil)) (nomark _)))))
      (pss_one (ps_ret pe_bl)) pss_nil)
    (pss_cons (ps_if (PW.pt (pw_or (pt_cmpR (op_neD hr.units) (pe_meth (pv 3) T.clT T.MTW GTW hr bTW .nil pass0 (pa_cons pe_str pa_nil)) (pe_lst pa_nil) (nomark _))
        (pw_or (pt_cmpR (op_neD hr.units) (pe_meth (pv 4) T.clI T.MIH GIH hr bIH .nil pass0 (pa_cons pe_str pa_nil)) (pe_lst pa_nil) (nomark _))
        (pw_or1 (pt_cmpR op_in_seq pe_str (pe_meth0 (pv 4) T.clI T.MIL GIL hr bIL .nil pass0) (by rfl))))))
      (pss_one (ps_ret pe_bl)) pss_nil) p7),
    fun D H v0 o ld lp p q a0 ds xs i n x c inv hn hi hds gx c0 c6 k => ?_⟩
  obtain ⟨W, T0, I0, d⟩ := id inv
  obtain ⟨a1, a2, G, ld'⟩ := id d.law
  obtain ⟨FT, FI, ht, hii, dd, hg⟩ := id ld'.pr
  have lT := d.lT
  have lI := d.lI
  have atT : ∀ {H'}, Same H H' → ∃ dx d1 d2 d3 d4 n, H' p = some (.ins a.CT dx (fT d1 d2 d3 d4 n)) := fun sm => by
    obtain ⟨dx, d1, d2, d3, d4, n, f, hp, _⟩ := id (ht.rd.same sm)
    exact ⟨dx, d1, d2, d3, d4, n, hp⟩
  have atI' : ∀ {H'}, Same H H' → ∃ dx e1 e2, H' q = some (.ins a.CI dx (fI e1 e2)) := fun sm => by
    obtain ⟨dx, e1, e2, f, hp, _⟩ := id (hii.rd.same sm)
    exact ⟨dx, e1, e2, hp⟩
  have s0 : Same H H := fun _ _ e => e
  -- names() and sorted(there[0])
  obtain ⟨dx, d1, d2, d3, d4, n1, hp⟩ := atT s0
  refine ⟨_, rfl, p, dx, _, rfl, hp, no_meth _ _ _ _ _ (by decide +kernel), p, T0, rfl, ht.rd, by omega, fun H1 l1 ys s1 hn1 hl1 hpy hsy => ?_⟩
  refine ⟨_, rfl, a0, _, _, .ref a1, rfl, rfl, SqL.of (s1 _ _ ld'.l0), at_of (j := 0) rfl rfl, a1, T0, rfl, SqL.of (s1 _ _ ld'.l1), by omega, fun zs l2 hpz hsz n2 => ?_⟩
  have e : zs = ys := sorted_one hpz hpy hsz hsy
  subst e
  have sh : SeqAt.shaped (.list (zs.map PyData.str)) = true := ls_shaped fun y hy => (ld'.gT y (hpz.mem_iff.mp hy)).ok
  have s2 : Same H (upd H1 l2 (.lst (zs.map V.str))) := same_upd2 s1 n2
  refine ⟨.list (zs.map PyData.str), .list (zs.map PyData.str), .lst (SqL.of ((upd_ne (ne_of_none hl1 n2)).trans hl1)) (dpStrs zs), .lst (SqL.of upd_same) (dpStrs zs), sh, sh, _, rfl, ?_⟩
  rw [eqvR sh]
  refine iteF ?_
  clear sh hpz hsz hpy hsy
  -- having("rent") and sorted(there[1])
  obtain ⟨dy, e1, e2, hq⟩ := atI' s2
  refine ⟨_, rfl, q, dy, _, rfl, hq, fI_no _ _ (by decide +kernel) (by decide +kernel), q, tR, FI, I0, rfl, hii.same s2, by omega, fun H3 l3 ys s3 hn3 hl3 hpy hsy => ?_⟩
  rw [gI_rent] at hpy
  have s3 := s2.trans s3
  refine ⟨_, rfl, a0, _, _, .ref a2, rfl, rfl, SqL.of (s3 _ _ ld'.l0), at_of (j := 1) rfl rfl, a2, I0, rfl, SqL.of (s3 _ _ ld'.l2), by omega, fun us l4 hpu hsu n4 => ?_⟩
  have e : us = ys := sorted_one hpu hpy hsu hsy
  subst e
  have sh : SeqAt.shaped (.list (us.map PyData.str)) = true := ls_shaped fun y hy => (ld'.gI y (hpu.mem_iff.mp hy)).ok
  have s4 : Same H (upd H3 l4 (.lst (us.map V.str))) := same_upd2 s3 n4
  refine ⟨.list (us.map PyData.str), .list (us.map PyData.str), .lst (SqL.of ((upd_ne (ne_of_none hl3 n4)).trans hl3)) (dpStrs us), .lst (SqL.of upd_same) (dpStrs us), sh, sh, _, rfl, ?_⟩
  rw [eqvR sh]
  refine iteF ?_
  clear sh hpu hsu hpy hsy
  -- answers_to("zother")
  have sh0 : SeqAt.shaped (.list []) = true := ls_shaped (ys := []) fun y hy => by cases hy
  obtain ⟨dx, d1, d2, d3, d4, n1, hp⟩ := atT s4
  refine ⟨_, rfl, p, dx, _, rfl, hp, no_meth _ _ _ _ _ (by decide +kernel), p, tZ, FT, T0, rfl, ht.same s4, by decide +kernel, fun H5 l5 s5 hn5 hl5 => ?_⟩
  refine ⟨Nat.zero_le _, fun l6 n6 => ?_⟩
  have s6 : Same H (upd H5 l6 (.lst [])) := same_upd2 (s4.trans s5) n6
  refine ⟨.list [], .list [], .lst (SqL.of ((upd_ne (ne_of_none hl5 n6)).trans hl5)) .nil, .lst (SqL.of upd_same) .nil, sh0, sh0, _, rfl, ?_⟩
  rw [eqvR sh0]
  refine iteF ?_
  -- having("zother")
  obtain ⟨dy, e1, e2, hq⟩ := atI' s6
  refine ⟨_, rfl, q, dy, _, rfl, hq, fI_no _ _ (by decide +kernel) (by decide +kernel), q, tZ, FI, I0, rfl, hii.same s6, by omega, fun H7 l7 ys s7 hn7 hl7 hpy hsy => ?_⟩
  rw [gI_Z ld'.gI] at hpy
  have e : ys = [] := hpy.eq_nil
  subst e
  have s7 := s6.trans s7
  refine ⟨Nat.zero_le _, fun l8 n8 => ?_⟩
  have s8 : Same H (upd H7 l8 (.lst [])) := same_upd2 s7 n8
  refine ⟨.list [], .list [], .lst (SqL.of ((upd_ne (ne_of_none hl7 n8)).trans hl7)) .nil, .lst (SqL.of upd_same) .nil, sh0, sh0, _, rfl, ?_⟩
  rw [eqvR sh0]
  refine iteF ?_
  -- all_words()
  obtain ⟨dy, e1, e2, hq⟩ := atI' s8
  refine ⟨_, rfl, q, dy, _, rfl, hq, fI_no _ _ (by decide +kernel) (by decide +kernel), q, FI, I0, rfl, hii.same s8, by omega, fun H9 l9 ys s9 hn9 hl9 hmem => ?_⟩
  have nz : inV (.str tZ) (ys.map V.str) = false := by
    rw [inL]
    refine decide_eq_false fun z => ?_
    rcases hmem _ z with e | e
    · exact absurd e (by decide +kernel)
    · exact (ld'.gI _ e).nz rfl
  refine ⟨l9, ys.map V.str, rfl, .inl (SqL.of hl9), rfl, flatL ys, _, rfl, ?_⟩
  show if inV (.str tZ) (ys.map V.str) = true then _ else _
  rw [nz]
  exact iteF (h7 D H9 v0 o ld lp p q a0 ds xs i n x c (inv.same (s8.trans s9)) hn hi hds gx c0 c6 k)
theorem seven_at {i : Int} (h0 : 0 ≤ i) (h1 : i < 7) : ∃ o : Int, atI [V.int 4, V.int 5, V.int 6, V.int 4, V.int 0, V.int 1, V.int 1] i = some (.int o) ∧ 0 ≤ o ∧ o ≤ 6 := by
  have h : i = 0 ∨ i = 1 ∨ i = 2 ∨ i = 3 ∨ i = 4 ∨ i = 5 ∨ i = 6 := by omega
  rcases h with rfl | rfl | rfl | rfl | rfl | rfl | rfl
  · exact ⟨4, at_of (j := 0) rfl rfl, by decide, by decide⟩
  · exact ⟨5, at_of (j := 1) rfl rfl, by decide, by decide⟩
  · exact ⟨6, at_of (j := 2) rfl rfl, by decide, by decide⟩
  · exact ⟨4, at_of (j := 3) rfl rfl, by decide, by decide⟩
  · exact ⟨0, at_of (j := 4) rfl rfl, by decide, by decide⟩
  · exact ⟨1, at_of (j := 5) rfl rfl, by decide, by decide⟩
  · exact ⟨1, at_of (j := 6) rfl rfl, by decide, by decide⟩
theorem strs_get {l : List Str} {i : Nat} (h : i < l.length) : (l.map V.str)[i]? = some (.str l[i]) := by
  rw [List.getElem?_map, List.getElem?_eq_getElem h]
  rfl
theorem b0 (T : Txt K mg a) (hr : Room 6 (AL a cdv A s)) : ∃ t, PSs (XL P w K mg base a cdv A outer s Hz E) (bodyLL.drop 0) t ∧
    ∀ (D : Ends) (H : Hp) (v0 v7 v8 v9 : Option V) (ld lp p q a0 : Addr) (ds : List Int) (xs : List Str) (i n : Nat), LInv a H p q a0 ld lp ds xs n → n ≤ 45 → i ≤ 14 → ds.length = 60 → xs ≠ [] → (∀ x ∈ xs, Good x) →
      (∀ H' x c o, LInv a H' p q a0 ld lp ds xs (n + 3) → D.nx (slots v0 ld lp p q a0 i x c o) H') → t D [v0, some (.ref ld), some (.ref lp), some (.ref p), some (.ref q), some (.ref a0), some (.int (0 + (i : Int))), v7, v8, v9] H := by
  obtain ⟨t5, p5, h5⟩ := b5 (P := P) (w := w) (base := base) (cdv := cdv) (A := A) (outer := outer) (s := s) (Hz := Hz) (E := E) T hr
  obtain ⟨fdS, GS, bS⟩ := ok_LS (P := P) (w := w) (base := base) T
  obtain ⟨fdS', FS⟩ := T.FLS
  have kS := FS.kp
  refine ⟨_, pss_cons (ps_set (i := 7) scLL.nd rfl (Or.inl rfl) (pe_ix ix_list (pv 2) (pe_op op_mod (pe_ix ix_list (pv 1) (pe_op op_add pe_int (pe_op op_mul pe_int (pv 6))) (fun _ _ => rfl)) (pe_callB call_len_seq (by rfl) T.m_len PySem.boot_len (pa_cons (pv 2) pa_nil))) (fun _ _ => rfl)))
    (pss_cons (ps_set (i := 8) scLL.nd rfl (Or.inl rfl) (pe_op op_mod (pe_ix ix_list (pv 1) (pe_op op_add pe_int (pe_op op_mul pe_int (pv 6))) (fun _ _ => rfl)) pe_int))
    (pss_cons (ps_if (pt_not (pt_val (pe_call GS hr rfl T.gLS kS bS .nil pass0 (pa_cons (pv 8) (pa_cons (pv 3) (pa_cons (pv 4) (pa_cons (pv 7) (pa_cons (pv 5) pa_nil)))))))) (pss_one (ps_ret pe_bl)) pss_nil)
    (pss_cons (ps_set (i := 9) scLL.nd rfl (Or.inl rfl) (pe_ix ix_list (pe_lst (pa_cons pe_int (pa_cons pe_int (pa_cons pe_int (pa_cons pe_int (pa_cons pe_int (pa_cons pe_int (pa_cons pe_int pa_nil)))))))) (pv 8) (fun _ _ => rfl)))
    (pss_cons (ps_if (PW.pt (pw_and (pt_cmpR op_eq (pe_op op_mod (pe_ix ix_list (pv 1) (pe_op op_add pe_int (pe_op op_mul pe_int (pv 6))) (fun _ _ => rfl)) pe_int) pe_int (nomark _))
      (pw_and1 (pt_not (pt_val (pe_call GS hr rfl T.gLS kS bS .nil pass0 (pa_cons (pv 9) (pa_cons (pv 3) (pa_cons (pv 4) (pa_cons (pv 7) (pa_cons (pv 5) pa_nil)))))))))))
      (pss_one (ps_ret pe_bl)) pss_nil) p5)))),
    fun D H v0 v7 v8 v9 ld lp p q a0 ds xs i n inv hn hi hds hne hgx k => ?_⟩
  obtain ⟨W, T0, I0, d⟩ := id inv
  have xl : 0 < xs.length := List.length_pos_iff.mpr hne
  have lx : (xs.map V.str).length = xs.length := List.length_map _
  have j0 := Int.emod_nonneg (ds[(4 + 3 * (0 + (i : Int))).toNat]'(by omega)) (show ((xs.length : Nat) : Int) ≠ 0 by omega)
  have j1 := Int.emod_lt_of_pos (ds[(4 + 3 * (0 + (i : Int))).toNat]'(by omega)) (show (0 : Int) < ((xs.length : Nat) : Int) by omega)
  -- name
  refine ⟨_, rfl, _, rfl, _, rfl, _, _, rfl, rfl, .inl ⟨by decide, by decide⟩, _, _, rfl, rfl, ld, _, _, _, rfl, rfl, SqL.of d.hd, at_of (j := (4 + 3 * (0 + (i : Int))).toNat) (by omega) (int_get (by omega)), _, rfl, lp, _, rfl, .inl (SqL.of d.hp), _, _, rfl, rfl, (by show (0 : Int) < _; rw [lx]; omega), ?_⟩
  rw [lx]
  refine ⟨lp, _, _, _, rfl, rfl, SqL.of d.hp, at_of (j := (ds[(4 + 3 * (0 + (i : Int))).toNat]'(by omega) % ((xs.length : Nat) : Int)).toNat) (by omega) (strs_get (by omega)), ?_⟩
  have gx : Good (xs[(ds[(4 + 3 * (0 + (i : Int))).toNat]'(by omega) % ((xs.length : Nat) : Int)).toNat]'(by omega)) := hgx _ (List.getElem_mem _)
  generalize hx : (xs[(ds[(4 + 3 * (0 + (i : Int))).toNat]'(by omega) % ((xs.length : Nat) : Int)).toNat]'(by omega)) = x at gx
  -- call
  refine ⟨_, rfl, _, rfl, _, _, rfl, rfl, .inl ⟨by decide, by decide⟩, _, _, rfl, rfl, ld, _, _, _, rfl, rfl, SqL.of d.hd, at_of (j := (5 + 3 * (0 + (i : Int))).toNat) (by omega) (int_get (by omega)), _, _, rfl, rfl, (by show (0 : Int) < 7; decide), ?_⟩
  have c0 := Int.emod_nonneg (ds[(5 + 3 * (0 + (i : Int))).toNat]'(by omega)) (show (7 : Int) ≠ 0 by decide)
  have c6 := Int.emod_lt_of_pos (ds[(5 + 3 * (0 + (i : Int))).toNat]'(by omega)) (show (0 : Int) < 7 by decide)
  -- step
  refine ⟨_, rfl, _, rfl, _, rfl, _, rfl, _, rfl, (ds[(5 + 3 * (0 + (i : Int))).toNat]'(by omega)) % 7, p, q, x, a0, W, T0, I0, rfl, c0, by omega, gx, d.law, Nat.le_trans d.lT (by omega), Nat.le_trans d.lI (by omega), fun H1 W1 T1 I1 law1 kw1 gw1 lT1 lI1 => ⟨_, rfl, iteF ?_⟩⟩
  have inv1 : LInv a H1 p q a0 ld lp ds xs (n + 1) := d.step law1 kw1 gw1 lT1 lI1
  -- other
  obtain ⟨o, hat, o0, o6⟩ := seven_at c0 c6
  refine ⟨Nat.le_of_lt (small_line (n := 7) (by decide)), fun l7 n7 => ⟨_, rfl, l7, _, _, .int o, rfl, rfl, SqL.of upd_same, hat, ?_⟩⟩
  have inv2 := inv1.same (same_upd (o := .lst [V.int 4, V.int 5, V.int 6, V.int 4, V.int 0, V.int 1, V.int 1]) n7)
  obtain ⟨W2, T2, I2, d2⟩ := id inv2
  refine ⟨_, rfl, _, rfl, _, _, rfl, rfl, .inl ⟨by decide, by decide⟩, _, _, rfl, rfl, ld, _, _, _, rfl, rfl, SqL.of d2.hd, at_of (j := (6 + 3 * (0 + (i : Int))).toNat) (by omega) (int_get (by omega)), _, _, rfl, rfl, (by show (0 : Int) < 3; decide), rfl, _, rfl, ?_⟩
  refine ite2 (fun _ => ?_) (fun _ => ?_)
  · exact ⟨_, rfl, _, rfl, _, rfl, _, rfl, _, rfl, o, p, q, x, a0, W2, T2, I2, rfl, o0, o6, gx, d2.law, Nat.le_trans d2.lT (by omega), Nat.le_trans d2.lI (by omega), fun H3 W3 T3 I3 law3 kw3 gw3 lT3 lI3 => ⟨_, rfl, iteF (h5 D H3 v0 _ ld lp p q a0 ds xs i (n + 2) x _ (d2.step law3 kw3 gw3 lT3 lI3) (by omega) hi hds gx c0 (by omega) fun H4 inv4 => k H4 x _ _ inv4)⟩⟩
  · exact iteF (h5 D _ v0 _ ld lp p q a0 ds xs i (n + 2) x _ (inv2.mono (Nat.le_succ _)) (by omega) hi hds gx c0 (by omega) fun H4 inv4 => k H4 x _ _ inv4)
end
end K24
/-! K24L8: the law, whole. -/
namespace K24
open PySem PySem.Spec PyProof.Rows L2

section
variable {P : Program} {w : World} {K : PySem.W.Frag} {mg : Str → Option Value} {base : Heap} {a : Ads} {cdv : Value} {A : Around} {outer : List Env} {s : Shared} {Hz : Hp} {E : XK}
theorem ll5 (T : Txt K mg a) (hr : Room 6 (AL a cdv A s)) : ∃ t, PSs (XL P w K mg base a cdv A outer s Hz E) ((defBody sLL).drop 5) t ∧
    ∀ (D : Ends) (H : Hp) (v0 v6 v7 v8 v9 : Option V) (ld lp p q a0 : Addr) (ds : List Int) (xs : List Str), LInv a H p q a0 ld lp ds xs 0 → ds.length = 60 → xs ≠ [] → (∀ x ∈ xs, Good x) →
      (∀ H', D.rt (.bl true) H') → t D [v0, some (.ref ld), some (.ref lp), some (.ref p), some (.ref q), some (.ref a0), v6, v7, v8, v9] H := by
  obtain ⟨t6, p6, h6⟩ := ll6 (P := P) (w := w) (base := base) (cdv := cdv) (A := A) (outer := outer) (s := s) (Hz := Hz) (E := E) T hr
  obtain ⟨t0, p0, h0⟩ := b0 (P := P) (w := w) (base := base) (cdv := cdv) (A := A) (outer := outer) (s := s) (Hz := Hz) (E := E) T hr
  refine ⟨_, pss_cons (ps_for PassesOwn.never rfl (pi_range1 rfl T.m_range (pa_cons (pe_op op_add pe_int (pe_op op_mod (pe_ix ix_list (pv 1) pe_int (fun _ _ => rfl)) pe_int)) pa_nil)) (pg_name (i := 6) scLL.nd rfl (Or.inl rfl)) p0) p6,
    fun D H v0 v6 v7 v8 v9 ld lp p q a0 ds xs inv hds hne hgx k => ?_⟩
  obtain ⟨W, T0, I0, d⟩ := id inv
  have j0 := Int.emod_nonneg (ds[2]'(by omega)) (show (13 : Int) ≠ 0 by decide)
  have j1 := Int.emod_lt_of_pos (ds[2]'(by omega)) (show (0 : Int) < 13 by decide)
  refine ⟨_, rfl, ld, _, _, _, rfl, rfl, SqL.of d.hd, at_of (j := 2) rfl (int_get (by omega)), _, _, rfl, rfl, (by show (0 : Int) < 13; decide), _, _, rfl, rfl, _, rfl, by omega, by omega, ?_⟩
  refine for_range (lo := 0) (n := (2 + (ds[2]'(by omega)) % 13).toNat) (fun i σ Hc => ∃ v6 v7 v8 v9 : Option V, σ = [v0, some (.ref ld), some (.ref lp), some (.ref p), some (.ref q), some (.ref a0), v6, v7, v8, v9] ∧ LInv a Hc p q a0 ld lp ds xs (3 * i))
    ⟨v6, v7, v8, v9, rfl, inv⟩ ?_ ?_
  · rintro i σ Hc hi ⟨v6, v7, v8, v9, rfl, inv⟩
    exact h0 _ Hc v0 v7 v8 v9 ld lp p q a0 ds xs i (3 * i) inv (by omega) (by omega) hds hne hgx fun H' x c o inv' => ⟨_, _, _, _, rfl, inv'⟩
  · rintro σ Hc ⟨v6, v7, v8, v9, rfl, W, T0, I0, d⟩
    have lT := d.lT
    exact h6 D Hc _ _ _ _ _ _ ld p q a0 ds W T0 I0 d.law (by omega) d.hd hds k
/-- the law holds of every list of numbers -/
def spLaw (K : PySem.W.Frag) : Sp := fun vs H Q _ => ∃ (l0 : Addr) (ns : List Int), vs = [.ref l0] ∧ SqL K H l0 (ns.map V.int) ∧ ns.length ≤ 63 ∧ ∀ H', Q (.bl true) H'
theorem ok_LL {fd : FuncData} (F : Fun K "law" "law" sLL a.fLL fd) (T : Txt K mg a) : FnOk P w K mg base CX0 7 a.fLL fd ["_law_script"] (spLaw K) := by
  refine F.ok scLL (fun vs H Q E h => ?_) (fun cdv A outer s H vs Q E hr h => ?_)
  · obtain ⟨l0, ns, rfl, _⟩ := h
    rfl
  · obtain ⟨l0, ns, rfl, hS, hlen, k⟩ := h
    obtain ⟨t5, p5, h5⟩ := ll5 (P := P) (w := w) (base := base) (cdv := cdv) (A := A) (outer := outer) (s := s) (Hz := H) (E := E) T hr
    obtain ⟨fdD, GD, bD⟩ := ok_LD (P := P) (w := w) (base := base) T
    obtain ⟨fdD', FD⟩ := T.FLD
    have kD := FD.kp
    have GD := GD.mono (k := 6) (by decide)
    obtain ⟨fdP, GP, bP⟩ := ok_LP (P := P) (w := w) (base := base) T
    obtain ⟨fdP', FP⟩ := T.FLP
    have kP := FP.kp
    have GP := GP.mono (k := 6) (by decide)
    obtain ⟨fdTI, GTI, bTI⟩ := ok_TI (P := P) (w := w) (base := base) T
    have GTI := GTI.mono (k := 5) (by decide)
    obtain ⟨fdII, GII, bII⟩ := ok_II (P := P) (w := w) (base := base) T
    have GII := GII.mono (k := 5) (by decide)
    refine ⟨_, pss_cons (ps_set (i := 1) scLL.nd rfl (Or.inl rfl) (pe_call GD hr rfl T.gLD kD bD .nil pass0 (pa_cons (pv 0) (pa_cons pe_int pa_nil))))
      (pss_cons (ps_set (i := 2) scLL.nd rfl (Or.inl rfl) (pe_call GP hr rfl T.gLP kP bP .nil pass0 (pa_cons (pv 1) pa_nil)))
      (pss_cons (ps_set (i := 3) scLL.nd rfl (Or.inl rfl) (pe_make0 T.mkT GTI hr rfl T.gCT bTI .nil pass0))
      (pss_cons (ps_set (i := 4) scLL.nd rfl (Or.inl rfl) (pe_make0 T.mkI GII hr rfl T.gCI bII .nil pass0))
      (pss_cons (ps_set (i := 5) scLL.nd rfl (Or.inl rfl) (pe_lst (pa_cons (pe_lst pa_nil) (pa_cons (pe_lst pa_nil) pa_nil)))) p5)))), ?_⟩
    refine ⟨_, rfl, l0, ns, rfl, hS, hlen, fun H1 ld ds s1 n1 e1 hds hd => ?_⟩
    refine ⟨_, rfl, ld, ds, rfl, SqL.of e1, hds, hd, fun H2 lp xs s2 n2 e2 hne hxl hgx => ?_⟩
    -- threads = Threads()
    intro p dx np ndx nep
    have s3 : Same H2 (upd (upd H2 dx (.own p)) p (.ins a.CT dx [])) := fun b o e => by
      rw [upd_ne (ne_of_none e np), upd_ne (ne_of_none e ndx)]
      exact e
    refine ⟨p, dx, rfl, upd_same, fun H3 FT ta k3 g3 => ⟨rfl, ?_⟩⟩
    have s3' : Same H2 H3 := fun b o e => k3 b o (s3 b o e) (ne_of_none e np)
    -- index = Index()
    intro q dy nq ndy neq
    have s4 : Same H3 (upd (upd H3 dy (.own q)) q (.ins a.CI dy [])) := fun b o e => by
      rw [upd_ne (ne_of_none e nq), upd_ne (ne_of_none e ndy)]
      exact e
    refine ⟨q, dy, rfl, upd_same, fun H4 FI ia k4 g4 => ⟨rfl, ?_⟩⟩
    have s4' : Same H3 H4 := fun b o e => k4 b o (s4 b o e) (ne_of_none e nq)
    have ta4 := ta.same s4'
    have dis : ∀ b, FT b → FI b → False := fun b z1 z2 => by
      obtain ⟨o, e⟩ := ta.lives b z1
      rcases g4 b z2 with y | y
      · rw [y] at e; rw [e] at nq; cases nq
      · rw [s4 _ _ e] at y; cases y
    -- there = [[], []]
    refine ⟨Nat.zero_le _, fun a1 m1 => ⟨Nat.zero_le _, fun a2 m2 => ⟨Nat.le_of_lt (small_line (n := 2) (by decide)), fun a0 m0 => ?_⟩⟩⟩
    have m2' := upd_none m2
    have m0' := upd_none m0
    have m0'' := upd_none m0'.2
    have s5 : Same H4 (upd (upd (upd H4 a1 (.lst [])) a2 (.lst [])) a0 (.lst [.ref a1, .ref a2])) := same_upd2 (same_upd2 (same_upd m1) m2) m0
    have nG : ∀ b, H4 b = none → ¬ (FT b ∨ FI b) := fun b e z => by
      rcases z with z | z
      · obtain ⟨o, y⟩ := ta4.lives b z
        rw [e] at y; cases y
      · obtain ⟨o, y⟩ := ia.lives b z
        rw [e] at y; cases y
    have sA : Same H2 (upd (upd (upd H4 a1 (.lst [])) a2 (.lst [])) a0 (.lst [.ref a1, .ref a2])) := (s3'.trans s4').trans s5
    have e1' : H4 ld = some (.lst (ds.map V.int)) := (s3'.trans s4') _ _ (s2 _ _ e1)
    have e2' : H4 lp = some (.lst (xs.map V.str)) := (s3'.trans s4') _ _ e2
    have nW : ∀ b o, H2 b = some o → ¬ ((FT b ∨ FI b) ∨ b = a0 ∨ b = a1 ∨ b = a2) := fun b o e z => by
      have e4 := (s3'.trans s4') _ _ e
      rcases z with (z | z) | z | z | z
      · rcases g3 b z with y | y
        · rw [y, np] at e; cases e
        · rw [s3 _ _ e] at y; cases y
      · rcases g4 b z with y | y
        · rw [y] at e; rw [s3' _ _ e] at nq; cases nq
        · rw [s4 _ _ (s3' _ _ e)] at y; cases y
      · rw [z] at e4; rw [e4] at m0''; cases m0''.2
      · rw [z] at e4; rw [e4] at m1; cases m1
      · rw [z] at e4; rw [e4] at m2'; cases m2'.2
    refine h5 _ _ _ _ _ _ _ ld lp p q a0 ds xs ⟨fun b => (FT b ∨ FI b) ∨ b = a0 ∨ b = a1 ∨ b = a2, [], [], ⟨a1, a2, fun b => FT b ∨ FI b, ?_⟩, sA _ _ (s2 _ _ e1), sA _ _ e2, nW _ _ (s2 _ _ e1), nW _ _ e2, Nat.le_refl _, Nat.le_refl _⟩ hds hne hgx k
    exact
      { pr := ⟨FT, FI, ta4.same s5, ia.same s5, dis, fun b => Iff.rfl⟩
        l0 := upd_same
        l1 := by rw [upd_ne m0''.1.symm, upd_ne m2'.1.symm, upd_same]; rfl
        l2 := by rw [upd_ne m0'.1.symm, upd_same]; rfl
        n0 := nG _ m0''.2
        n1 := nG _ m1
        n2 := nG _ m2'.2
        d01 := m0''.1
        d02 := m0'.1
        d12 := m2'.1.symm
        gT := fun y hy => by cases hy
        gI := fun y hy => by cases hy
        fp := fun b => Iff.rfl }
end
end K24
/-! K24E: what stands behind the top, and the claim. -/
namespace K24
open PySem PySem.Spec PyProof.Rows L2
theorem kit_own {K : PySem.W.Frag} {D C : Addr} (hd : PySem.W.hasDictIn K C = true) (ht : PySem.W.typeIn K (.ref C) = some (.type "type")) (h : PySem.W.subIn K (.ref D) (.ref C) = some false) (ne : D ≠ C) : PySem.W.kitOne K (.ref D) (.ref C) = some false := by
  obtain ⟨cd, hc, _⟩ := PySem.W.any_some hd
  have e1 : (Value.ref D == Value.ref C) = false := Bool.eq_false_iff.mpr fun q => ne (Value.ref.inj (beq_iff_eq.mp q))
  have e2 : ((PySem.W.clsIn K C).isSome && PySem.W.typeIn K (.ref C) == some (.type "type")) = true := by rw [hc, ht] <;> rfl
  show (if (Value.ref D == Value.ref C) = true then some true else if ((PySem.W.clsIn K C).isSome && PySem.W.typeIn K (.ref C) == some (.type "type")) = true then PySem.W.subIn K (.ref D) (.ref C) else none) = some false
  rw [e1, if_neg Bool.false_ne_true, if_pos e2]
  exact h
theorem kit_same {K : PySem.W.Frag} {D : Addr} : PySem.W.kitOne K (.ref D) (.ref D) = some true := if_pos (beq_self_eq_true _)
theorem kit_blt {K : PySem.W.Frag} {D : Addr} (h : PySem.W.subIn K (.ref D) (.type "ValueError") = some true) : PySem.W.kitOne K (.ref D) (.type "ValueError") = some true := by
  show (if (Value.ref D == Value.type "ValueError") = true then some true else if PySem.W.kitMeta "ValueError" = true then PySem.W.subIn K (.ref D) (.type "ValueError") else none) = some true
  rw [if_neg (fun q => by cases beq_iff_eq.mp q), if_pos (by decide +kernel)]
  exact h
theorem all_mk {l : PySem.W.OpenLaw} {w : World} {K : PySem.W.Frag} {h : Heap} {mg : Str → Option Value} {fa CI CT CM CN CW CL CR CP CO fII fIS fIA fIT fIH fIW fIL fTI fTP fTG fTH fTS fTA fTT fTN fTR fTL fTW fTD fLD fLN fLP fLC fLR fLU fLS fLL dT : Addr} (X : K.In h) (G : h.Ns mainGlobals mg) (hfa : mg "law" = some (.ref fa))
    {ocII kVII dcII pmII cdII ctII : Value} {odII anII : Option Addr} {slII : Array (Option Value)}
    {ocIS kVIS dcIS pmIS cdIS ctIS : Value} {odIS anIS : Option Addr} {slIS : Array (Option Value)}
    {ocIA kVIA dcIA pmIA cdIA ctIA : Value} {odIA anIA : Option Addr} {slIA : Array (Option Value)}
    {ocIT kVIT dcIT pmIT cdIT ctIT : Value} {odIT anIT : Option Addr} {slIT : Array (Option Value)}
    {ocIH kVIH dcIH pmIH cdIH ctIH : Value} {odIH anIH : Option Addr} {slIH : Array (Option Value)}
    {ocIW kVIW dcIW pmIW cdIW ctIW : Value} {odIW anIW : Option Addr} {slIW : Array (Option Value)}
    {ocIL kVIL dcIL pmIL cdIL ctIL : Value} {odIL anIL : Option Addr} {slIL : Array (Option Value)}
    {ocTI kVTI dcTI pmTI cdTI ctTI : Value} {odTI anTI : Option Addr} {slTI : Array (Option Value)}
    {ocTP kVTP dcTP pmTP cdTP ctTP : Value} {odTP anTP : Option Addr} {slTP : Array (Option Value)}
    {ocTG kVTG dcTG pmTG cdTG ctTG : Value} {odTG anTG : Option Addr} {slTG : Array (Option Value)}
    {ocTH kVTH dcTH pmTH cdTH ctTH : Value} {odTH anTH : Option Addr} {slTH : Array (Option Value)}
    {ocTS kVTS dcTS pmTS cdTS ctTS : Value} {odTS anTS : Option Addr} {slTS : Array (Option Value)}
    {ocTA kVTA dcTA pmTA cdTA ctTA : Value} {odTA anTA : Option Addr} {slTA : Array (Option Value)}
    {ocTT kVTT dcTT pmTT cdTT ctTT : Value} {odTT anTT : Option Addr} {slTT : Array (Option Value)}
    {ocTN kVTN dcTN pmTN cdTN ctTN : Value} {odTN anTN : Option Addr} {slTN : Array (Option Value)}
    {ocTR kVTR dcTR pmTR cdTR ctTR : Value} {odTR anTR : Option Addr} {slTR : Array (Option Value)}
    {ocTL kVTL dcTL pmTL cdTL ctTL : Value} {odTL anTL : Option Addr} {slTL : Array (Option Value)}
    {ocTW kVTW dcTW pmTW cdTW ctTW : Value} {odTW anTW : Option Addr} {slTW : Array (Option Value)}
    {ocTD kVTD dcTD pmTD cdTD ctTD : Value} {odTD anTD : Option Addr} {slTD : Array (Option Value)}
    {ocLD kVLD dcLD pmLD cdLD ctLD : Value} {odLD anLD : Option Addr} {slLD : Array (Option Value)}
    {ocLN kVLN dcLN pmLN cdLN ctLN : Value} {odLN anLN : Option Addr} {slLN : Array (Option Value)}
    {ocLP kVLP dcLP pmLP cdLP ctLP : Value} {odLP anLP : Option Addr} {slLP : Array (Option Value)}
    {ocLC kVLC dcLC pmLC cdLC ctLC : Value} {odLC anLC : Option Addr} {slLC : Array (Option Value)}
    {ocLR kVLR dcLR pmLR cdLR ctLR : Value} {odLR anLR : Option Addr} {slLR : Array (Option Value)}
    {ocLU kVLU dcLU pmLU cdLU ctLU : Value} {odLU anLU : Option Addr} {slLU : Array (Option Value)}
    {ocLS kVLS dcLS pmLS cdLS ctLS : Value} {odLS anLS : Option Addr} {slLS : Array (Option Value)}
    {ocLL kVLL dcLL pmLL cdLL ctLL : Value} {odLL anLL : Option Addr} {slLL : Array (Option Value)}
    {ocD : Value} {odD : Option Addr} {tkD : Tok} {nD : Nat} {slD : Array (Option Value)}
    (aCI : PySem.W.nsIn K mainGlobals "Index" = some (some (.ref CI)))
    (aCT : PySem.W.nsIn K mainGlobals "Threads" = some (some (.ref CT)))
    (aCM : PySem.W.nsIn K mainGlobals "MailError" = some (some (.ref CM)))
    (aCN : PySem.W.nsIn K mainGlobals "NoName" = some (some (.ref CN)))
    (aCW : PySem.W.nsIn K mainGlobals "NoWord" = some (some (.ref CW)))
    (aCL : PySem.W.nsIn K mainGlobals "NoLetter" = some (some (.ref CL)))
    (aCR : PySem.W.nsIn K mainGlobals "NoRule" = some (some (.ref CR)))
    (aCP : PySem.W.nsIn K mainGlobals "NoParcel" = some (some (.ref CP)))
    (aCO : PySem.W.nsIn K mainGlobals "NoRow" = some (some (.ref CO)))
    (aII : PySem.W.findIn K (.ref CI) "__init__" = some (some (.ref fII)))
    (iII : PySem.W.isFn K (.ref fII) = true)
    (lII : K.lookup fII = some ⟨ocII, odII, .func (PySem.W.fnOf "__init__" "Index.__init__" (defArgs sII) (defBody sII) (defScope sII) .none kVII dcII pmII anII cdII ctII), slII⟩)
    (cII : PySem.W.codeIn K cdII "Index.__init__" = true)
    (kII : PySem.W.keepIn K (.ref fII) = true)
    (aIS : PySem.W.findIn K (.ref CI) "sure" = some (some (.ref fIS)))
    (iIS : PySem.W.isFn K (.ref fIS) = true)
    (lIS : K.lookup fIS = some ⟨ocIS, odIS, .func (PySem.W.fnOf "sure" "Index.sure" (defArgs sIS) (defBody sIS) (defScope sIS) .none kVIS dcIS pmIS anIS cdIS ctIS), slIS⟩)
    (cIS : PySem.W.codeIn K cdIS "Index.sure" = true)
    (kIS : PySem.W.keepIn K (.ref fIS) = true)
    (aIA : PySem.W.findIn K (.ref CI) "add" = some (some (.ref fIA)))
    (iIA : PySem.W.isFn K (.ref fIA) = true)
    (lIA : K.lookup fIA = some ⟨ocIA, odIA, .func (PySem.W.fnOf "add" "Index.add" (defArgs sIA) (defBody sIA) (defScope sIA) .none kVIA dcIA pmIA anIA cdIA ctIA), slIA⟩)
    (cIA : PySem.W.codeIn K cdIA "Index.add" = true)
    (kIA : PySem.W.keepIn K (.ref fIA) = true)
    (aIT : PySem.W.findIn K (.ref CI) "take_out" = some (some (.ref fIT)))
    (iIT : PySem.W.isFn K (.ref fIT) = true)
    (lIT : K.lookup fIT = some ⟨ocIT, odIT, .func (PySem.W.fnOf "take_out" "Index.take_out" (defArgs sIT) (defBody sIT) (defScope sIT) .none kVIT dcIT pmIT anIT cdIT ctIT), slIT⟩)
    (cIT : PySem.W.codeIn K cdIT "Index.take_out" = true)
    (kIT : PySem.W.keepIn K (.ref fIT) = true)
    (aIH : PySem.W.findIn K (.ref CI) "having" = some (some (.ref fIH)))
    (iIH : PySem.W.isFn K (.ref fIH) = true)
    (lIH : K.lookup fIH = some ⟨ocIH, odIH, .func (PySem.W.fnOf "having" "Index.having" (defArgs sIH) (defBody sIH) (defScope sIH) .none kVIH dcIH pmIH anIH cdIH ctIH), slIH⟩)
    (cIH : PySem.W.codeIn K cdIH "Index.having" = true)
    (kIH : PySem.W.keepIn K (.ref fIH) = true)
    (aIW : PySem.W.findIn K (.ref CI) "words" = some (some (.ref fIW)))
    (iIW : PySem.W.isFn K (.ref fIW) = true)
    (lIW : K.lookup fIW = some ⟨ocIW, odIW, .func (PySem.W.fnOf "words" "Index.words" (defArgs sIW) (defBody sIW) (defScope sIW) .none kVIW dcIW pmIW anIW cdIW ctIW), slIW⟩)
    (cIW : PySem.W.codeIn K cdIW "Index.words" = true)
    (kIW : PySem.W.keepIn K (.ref fIW) = true)
    (aIL : PySem.W.findIn K (.ref CI) "all_words" = some (some (.ref fIL)))
    (iIL : PySem.W.isFn K (.ref fIL) = true)
    (lIL : K.lookup fIL = some ⟨ocIL, odIL, .func (PySem.W.fnOf "all_words" "Index.all_words" (defArgs sIL) (defBody sIL) (defScope sIL) .none kVIL dcIL pmIL anIL cdIL ctIL), slIL⟩)
    (cIL : PySem.W.codeIn K cdIL "Index.all_words" = true)
    (kIL : PySem.W.keepIn K (.ref fIL) = true)
    (aTI : PySem.W.findIn K (.ref CT) "__init__" = some (some (.ref fTI)))
    (iTI : PySem.W.isFn K (.ref fTI) = true)
    (lTI : K.lookup fTI = some ⟨ocTI, odTI, .func (PySem.W.fnOf "__init__" "Threads.__init__" (defArgs sTI) (defBody sTI) (defScope sTI) .none kVTI dcTI pmTI anTI cdTI ctTI), slTI⟩)
    (cTI : PySem.W.codeIn K cdTI "Threads.__init__" = true)
    (kTI : PySem.W.keepIn K (.ref fTI) = true)
    (aTP : PySem.W.findIn K (.ref CT) "pile" = some (some (.ref fTP)))
    (iTP : PySem.W.isFn K (.ref fTP) = true)
    (lTP : K.lookup fTP = some ⟨ocTP, odTP, .func (PySem.W.fnOf "pile" "Threads.pile" (defArgs sTP) (defBody sTP) (defScope sTP) .none kVTP dcTP pmTP anTP cdTP ctTP), slTP⟩)
    (cTP : PySem.W.codeIn K cdTP "Threads.pile" = true)
    (kTP : PySem.W.keepIn K (.ref fTP) = true)
    (aTG : PySem.W.findIn K (.ref CT) "put_together" = some (some (.ref fTG)))
    (iTG : PySem.W.isFn K (.ref fTG) = true)
    (lTG : K.lookup fTG = some ⟨ocTG, odTG, .func (PySem.W.fnOf "put_together" "Threads.put_together" (defArgs sTG) (defBody sTG) (defScope sTG) .none kVTG dcTG pmTG anTG cdTG ctTG), slTG⟩)
    (cTG : PySem.W.codeIn K cdTG "Threads.put_together" = true)
    (kTG : PySem.W.keepIn K (.ref fTG) = true)
    (aTH : PySem.W.findIn K (.ref CT) "hang" = some (some (.ref fTH)))
    (iTH : PySem.W.isFn K (.ref fTH) = true)
    (lTH : K.lookup fTH = some ⟨ocTH, odTH, .func (PySem.W.fnOf "hang" "Threads.hang" (defArgs sTH) (defBody sTH) (defScope sTH) .none kVTH dcTH pmTH anTH cdTH ctTH), slTH⟩)
    (cTH : PySem.W.codeIn K cdTH "Threads.hang" = true)
    (kTH : PySem.W.keepIn K (.ref fTH) = true)
    (aTS : PySem.W.findIn K (.ref CT) "sure" = some (some (.ref fTS)))
    (iTS : PySem.W.isFn K (.ref fTS) = true)
    (lTS : K.lookup fTS = some ⟨ocTS, odTS, .func (PySem.W.fnOf "sure" "Threads.sure" (defArgs sTS) (defBody sTS) (defScope sTS) .none kVTS dcTS pmTS anTS cdTS ctTS), slTS⟩)
    (cTS : PySem.W.codeIn K cdTS "Threads.sure" = true)
    (kTS : PySem.W.keepIn K (.ref fTS) = true)
    (aTA : PySem.W.findIn K (.ref CT) "add" = some (some (.ref fTA)))
    (iTA : PySem.W.isFn K (.ref fTA) = true)
    (lTA : K.lookup fTA = some ⟨ocTA, odTA, .func (PySem.W.fnOf "add" "Threads.add" (defArgs sTA) (defBody sTA) (defScope sTA) (.ref dT) kVTA dcTA pmTA anTA cdTA ctTA), slTA⟩)
    (cTA : PySem.W.codeIn K cdTA "Threads.add" = true)
    (kTA : PySem.W.keepIn K (.ref fTA) = true)
    (lD : K.lookup dT = some ⟨ocD, odD, .seq #[.str "" tkD] nD, slD⟩)
    (aTT : PySem.W.findIn K (.ref CT) "take_out" = some (some (.ref fTT)))
    (iTT : PySem.W.isFn K (.ref fTT) = true)
    (lTT : K.lookup fTT = some ⟨ocTT, odTT, .func (PySem.W.fnOf "take_out" "Threads.take_out" (defArgs sTT) (defBody sTT) (defScope sTT) .none kVTT dcTT pmTT anTT cdTT ctTT), slTT⟩)
    (cTT : PySem.W.codeIn K cdTT "Threads.take_out" = true)
    (kTT : PySem.W.keepIn K (.ref fTT) = true)
    (aTN : PySem.W.findIn K (.ref CT) "names" = some (some (.ref fTN)))
    (iTN : PySem.W.isFn K (.ref fTN) = true)
    (lTN : K.lookup fTN = some ⟨ocTN, odTN, .func (PySem.W.fnOf "names" "Threads.names" (defArgs sTN) (defBody sTN) (defScope sTN) .none kVTN dcTN pmTN anTN cdTN ctTN), slTN⟩)
    (cTN : PySem.W.codeIn K cdTN "Threads.names" = true)
    (kTN : PySem.W.keepIn K (.ref fTN) = true)
    (aTR : PySem.W.findIn K (.ref CT) "thread" = some (some (.ref fTR)))
    (iTR : PySem.W.isFn K (.ref fTR) = true)
    (lTR : K.lookup fTR = some ⟨ocTR, odTR, .func (PySem.W.fnOf "thread" "Threads.thread" (defArgs sTR) (defBody sTR) (defScope sTR) .none kVTR dcTR pmTR anTR cdTR ctTR), slTR⟩)
    (cTR : PySem.W.codeIn K cdTR "Threads.thread" = true)
    (kTR : PySem.W.keepIn K (.ref fTR) = true)
    (aTL : PySem.W.findIn K (.ref CT) "threads" = some (some (.ref fTL)))
    (iTL : PySem.W.isFn K (.ref fTL) = true)
    (lTL : K.lookup fTL = some ⟨ocTL, odTL, .func (PySem.W.fnOf "threads" "Threads.threads" (defArgs sTL) (defBody sTL) (defScope sTL) .none kVTL dcTL pmTL anTL cdTL ctTL), slTL⟩)
    (cTL : PySem.W.codeIn K cdTL "Threads.threads" = true)
    (kTL : PySem.W.keepIn K (.ref fTL) = true)
    (aTW : PySem.W.findIn K (.ref CT) "answers_to" = some (some (.ref fTW)))
    (iTW : PySem.W.isFn K (.ref fTW) = true)
    (lTW : K.lookup fTW = some ⟨ocTW, odTW, .func (PySem.W.fnOf "answers_to" "Threads.answers_to" (defArgs sTW) (defBody sTW) (defScope sTW) .none kVTW dcTW pmTW anTW cdTW ctTW), slTW⟩)
    (cTW : PySem.W.codeIn K cdTW "Threads.answers_to" = true)
    (kTW : PySem.W.keepIn K (.ref fTW) = true)
    (aTD : PySem.W.findIn K (.ref CT) "depth" = some (some (.ref fTD)))
    (iTD : PySem.W.isFn K (.ref fTD) = true)
    (lTD : K.lookup fTD = some ⟨ocTD, odTD, .func (PySem.W.fnOf "depth" "Threads.depth" (defArgs sTD) (defBody sTD) (defScope sTD) .none kVTD dcTD pmTD anTD cdTD ctTD), slTD⟩)
    (cTD : PySem.W.codeIn K cdTD "Threads.depth" = true)
    (kTD : PySem.W.keepIn K (.ref fTD) = true)
    (aLD : PySem.W.nsIn K mainGlobals "_law_draws" = some (some (.ref fLD)))
    (lLD : K.lookup fLD = some ⟨ocLD, odLD, .func (PySem.W.fnOf "_law_draws" "_law_draws" (defArgs sLD) (defBody sLD) (defScope sLD) .none kVLD dcLD pmLD anLD cdLD ctLD), slLD⟩)
    (cLD : PySem.W.codeIn K cdLD "_law_draws" = true)
    (kLD : PySem.W.keepIn K (.ref fLD) = true)
    (aLN : PySem.W.nsIn K mainGlobals "_law_name_by" = some (some (.ref fLN)))
    (lLN : K.lookup fLN = some ⟨ocLN, odLN, .func (PySem.W.fnOf "_law_name_by" "_law_name_by" (defArgs sLN) (defBody sLN) (defScope sLN) .none kVLN dcLN pmLN anLN cdLN ctLN), slLN⟩)
    (cLN : PySem.W.codeIn K cdLN "_law_name_by" = true)
    (kLN : PySem.W.keepIn K (.ref fLN) = true)
    (aLP : PySem.W.nsIn K mainGlobals "_law_pool" = some (some (.ref fLP)))
    (lLP : K.lookup fLP = some ⟨ocLP, odLP, .func (PySem.W.fnOf "_law_pool" "_law_pool" (defArgs sLP) (defBody sLP) (defScope sLP) .none kVLP dcLP pmLP anLP cdLP ctLP), slLP⟩)
    (cLP : PySem.W.codeIn K cdLP "_law_pool" = true)
    (kLP : PySem.W.keepIn K (.ref fLP) = true)
    (aLC : PySem.W.nsIn K mainGlobals "_law_called" = some (some (.ref fLC)))
    (lLC : K.lookup fLC = some ⟨ocLC, odLC, .func (PySem.W.fnOf "_law_called" "_law_called" (defArgs sLC) (defBody sLC) (defScope sLC) .none kVLC dcLC pmLC anLC cdLC ctLC), slLC⟩)
    (cLC : PySem.W.codeIn K cdLC "_law_called" = true)
    (kLC : PySem.W.keepIn K (.ref fLC) = true)
    (aLR : PySem.W.nsIn K mainGlobals "_law_refused" = some (some (.ref fLR)))
    (lLR : K.lookup fLR = some ⟨ocLR, odLR, .func (PySem.W.fnOf "_law_refused" "_law_refused" (defArgs sLR) (defBody sLR) (defScope sLR) .none kVLR dcLR pmLR anLR cdLR ctLR), slLR⟩)
    (cLR : PySem.W.codeIn K cdLR "_law_refused" = true)
    (kLR : PySem.W.keepIn K (.ref fLR) = true)
    (aLU : PySem.W.nsIn K mainGlobals "_law_due" = some (some (.ref fLU)))
    (lLU : K.lookup fLU = some ⟨ocLU, odLU, .func (PySem.W.fnOf "_law_due" "_law_due" (defArgs sLU) (defBody sLU) (defScope sLU) .none kVLU dcLU pmLU anLU cdLU ctLU), slLU⟩)
    (cLU : PySem.W.codeIn K cdLU "_law_due" = true)
    (kLU : PySem.W.keepIn K (.ref fLU) = true)
    (aLS : PySem.W.nsIn K mainGlobals "_law_step" = some (some (.ref fLS)))
    (lLS : K.lookup fLS = some ⟨ocLS, odLS, .func (PySem.W.fnOf "_law_step" "_law_step" (defArgs sLS) (defBody sLS) (defScope sLS) .none kVLS dcLS pmLS anLS cdLS ctLS), slLS⟩)
    (cLS : PySem.W.codeIn K cdLS "_law_step" = true)
    (kLS : PySem.W.keepIn K (.ref fLS) = true)
    (aLL : PySem.W.nsIn K mainGlobals "law" = some (some (.ref fLL)))
    (lLL : K.lookup fLL = some ⟨ocLL, odLL, .func (PySem.W.fnOf "law" "law" (defArgs sLL) (defBody sLL) (defScope sLL) .none kVLL dcLL pmLL anLL cdLL ctLL), slLL⟩)
    (cLL : PySem.W.codeIn K cdLL "law" = true)
    (kLL : PySem.W.keepIn K (.ref fLL) = true)
    (pgI : PySem.W.plainGet K CI Str.empty = true)
    (hdI : PySem.W.hasDictIn K CI = true)
    (poI : PySem.W.plainOver K CI = true)
    (saI : PySem.W.findIn K (.ref CI) "__setattr__" = some (some (.builtin "object.__setattr__")))
    (mkI : PySem.W.makesIn K CI = true)
    (kcI : PySem.W.keepIn K (.ref CI) = true)
    (pgT : PySem.W.plainGet K CT Str.empty = true)
    (hdT : PySem.W.hasDictIn K CT = true)
    (poT : PySem.W.plainOver K CT = true)
    (saT : PySem.W.findIn K (.ref CT) "__setattr__" = some (some (.builtin "object.__setattr__")))
    (mkT : PySem.W.makesIn K CT = true)
    (kcT : PySem.W.keepIn K (.ref CT) = true)
    (nI_rows_of : PySem.W.findIn K (.ref CI) "rows_of" = some none)
    (nI_holders : PySem.W.findIn K (.ref CI) "holders" = some none)
    (nT_goes_to : PySem.W.findIn K (.ref CT) "goes_to" = some none)
    (nT_pile_of : PySem.W.findIn K (.ref CT) "pile_of" = some none)
    (nT_piles : PySem.W.findIn K (.ref CT) "piles" = some none)
    (nT_comes_from : PySem.W.findIn K (.ref CT) "comes_from" = some none)
    (nT_made : PySem.W.findIn K (.ref CT) "made" = some none)
    (xN : PySem.W.excIn K CN [.type "ValueError", .type "Exception", .type "BaseException", .type "object"] "ValueError.__new__" = true)
    (kN : PySem.W.keepIn K (.ref CN) = true)
    (bN : PySem.W.subIn K (.ref CN) (.type "BaseException") = some true)
    (tN : PySem.W.typeIn K (.ref CN) = some (.type "type"))
    (bM : PySem.W.subIn K (.ref CM) (.type "BaseException") = some true)
    (hM : PySem.W.hasDictIn K CM = true)
    (tM : PySem.W.typeIn K (.ref CM) = some (.type "type"))
    (sM : PySem.W.subIn K (.ref CN) (.ref CM) = some true)
    (xg : PySem.W.findIn K (.ref CN) "__getattribute__" = some (some (.builtin "BaseException.__getattribute__")))
    (xk : PySem.W.findIn K (.ref CN) "__getattr__" = some none)
    (xd : PySem.W.hasDictIn K CN = true)
    (xa : PySem.W.findIn K (.ref CN) "__class__" = some (some (.builtin "object.__class__")))
    (xn : PySem.W.specialIn K (.builtin "object.__class__") "__get__" = some (some (.builtin "getset_descriptor.__get__")))
    (xt : PySem.W.takesIn K (.builtin "object.__class__") = some true)
    (xm : PySem.W.mroIn K CN (.type "object") = some true)
    (hdCW : PySem.W.hasDictIn K CW = true)
    (tyCW : PySem.W.typeIn K (.ref CW) = some (.type "type"))
    (suCW : PySem.W.subIn K (.ref CN) (.ref CW) = some false)
    (neCW : CN ≠ CW)
    (hdCL : PySem.W.hasDictIn K CL = true)
    (tyCL : PySem.W.typeIn K (.ref CL) = some (.type "type"))
    (suCL : PySem.W.subIn K (.ref CN) (.ref CL) = some false)
    (neCL : CN ≠ CL)
    (hdCR : PySem.W.hasDictIn K CR = true)
    (tyCR : PySem.W.typeIn K (.ref CR) = some (.type "type"))
    (suCR : PySem.W.subIn K (.ref CN) (.ref CR) = some false)
    (neCR : CN ≠ CR)
    (hdCP : PySem.W.hasDictIn K CP = true)
    (tyCP : PySem.W.typeIn K (.ref CP) = some (.type "type"))
    (suCP : PySem.W.subIn K (.ref CN) (.ref CP) = some false)
    (neCP : CN ≠ CP)
    (hdCO : PySem.W.hasDictIn K CO = true)
    (tyCO : PySem.W.typeIn K (.ref CO) = some (.type "type"))
    (suCO : PySem.W.subIn K (.ref CN) (.ref CO) = some false)
    (neCO : CN ≠ CO)
    (suVE : PySem.W.subIn K (.ref CN) (.type "ValueError") = some true)
    (z_sorted : PySem.W.nsIn K mainGlobals "sorted" = some none)
    (z_set : PySem.W.nsIn K mainGlobals "set" = some none)
    (z_len : PySem.W.nsIn K mainGlobals "len" = some none)
    (z_list : PySem.W.nsIn K mainGlobals "list" = some none)
    (z_range : PySem.W.nsIn K mainGlobals "range" = some none)
    (z_int : PySem.W.nsIn K mainGlobals "int" = some none)
    (z_bool : PySem.W.nsIn K mainGlobals "bool" = some none)
    (z_isinstance : PySem.W.nsIn K mainGlobals "isinstance" = some none)
    (z_ValueError : PySem.W.nsIn K mainGlobals "ValueError" = some none)
    : ∃ fd : FuncData, (∀ (s : Shared) (v : Value), BindsTo s fd ⟨[v], []⟩ [("_law_script", v)]) ∧ ∀ base : Heap, K.In base → base.Ns mainGlobals mg → FnOk l.prog w K mg base CX0 7 fa fd ["_law_script"] (spLaw K) := by
  have e := hfa.symm.trans (PySem.W.mg_of X G aLL)
  cases e
  have T : Txt K mg ⟨CI, CT, CM, CN, CW, CL, CR, CP, CO, fII, fIS, fIA, fIT, fIH, fIW, fIL, fTI, fTP, fTG, fTH, fTS, fTA, fTT, fTN, fTR, fTL, fTW, fTD, fLD, fLN, fLP, fLC, fLR, fLU, fLS, fa⟩ :=
    { gCI := PySem.W.mg_of X G aCI
      gCT := PySem.W.mg_of X G aCT
      gCM := PySem.W.mg_of X G aCM
      gCN := PySem.W.mg_of X G aCN
      gCW := PySem.W.mg_of X G aCW
      gCL := PySem.W.mg_of X G aCL
      gCR := PySem.W.mg_of X G aCR
      gCP := PySem.W.mg_of X G aCP
      gCO := PySem.W.mg_of X G aCO
      FII := ⟨_, fun_mk (st := sII) lII cII kII⟩
      FIS := ⟨_, fun_mk (st := sIS) lIS cIS kIS⟩
      MIS := ⟨aIS, iIS, kIS⟩
      FIA := ⟨_, fun_mk (st := sIA) lIA cIA kIA⟩
      MIA := ⟨aIA, iIA, kIA⟩
      FIT := ⟨_, fun_mk (st := sIT) lIT cIT kIT⟩
      MIT := ⟨aIT, iIT, kIT⟩
      FIH := ⟨_, fun_mk (st := sIH) lIH cIH kIH⟩
      MIH := ⟨aIH, iIH, kIH⟩
      FIW := ⟨_, fun_mk (st := sIW) lIW cIW kIW⟩
      MIW := ⟨aIW, iIW, kIW⟩
      FIL := ⟨_, fun_mk (st := sIL) lIL cIL kIL⟩
      MIL := ⟨aIL, iIL, kIL⟩
      FTI := ⟨_, fun_mk (st := sTI) lTI cTI kTI⟩
      FTP := ⟨_, fun_mk (st := sTP) lTP cTP kTP⟩
      MTP := ⟨aTP, iTP, kTP⟩
      FTG := ⟨_, fun_mk (st := sTG) lTG cTG kTG⟩
      MTG := ⟨aTG, iTG, kTG⟩
      FTH := ⟨_, fun_mk (st := sTH) lTH cTH kTH⟩
      MTH := ⟨aTH, iTH, kTH⟩
      FTS := ⟨_, fun_mk (st := sTS) lTS cTS kTS⟩
      MTS := ⟨aTS, iTS, kTS⟩
      FTA := ⟨_, ⟨⟨_, _, _, _, _, _, _, _, _, _, rfl, lTA, cTA, .inr ⟨by simp, dT, _, [.str "" tkD], nD, rfl, lD, rfl, .cons ⟨tkD, rfl⟩ .nil⟩, .inl rfl⟩, kTA⟩⟩
      MTA := ⟨aTA, iTA, kTA⟩
      FTT := ⟨_, fun_mk (st := sTT) lTT cTT kTT⟩
      MTT := ⟨aTT, iTT, kTT⟩
      FTN := ⟨_, fun_mk (st := sTN) lTN cTN kTN⟩
      MTN := ⟨aTN, iTN, kTN⟩
      FTR := ⟨_, fun_mk (st := sTR) lTR cTR kTR⟩
      MTR := ⟨aTR, iTR, kTR⟩
      FTL := ⟨_, fun_mk (st := sTL) lTL cTL kTL⟩
      MTL := ⟨aTL, iTL, kTL⟩
      FTW := ⟨_, fun_mk (st := sTW) lTW cTW kTW⟩
      MTW := ⟨aTW, iTW, kTW⟩
      FTD := ⟨_, fun_mk (st := sTD) lTD cTD kTD⟩
      MTD := ⟨aTD, iTD, kTD⟩
      FLD := ⟨_, fun_mk (st := sLD) lLD cLD kLD⟩
      gLD := PySem.W.mg_of X G aLD
      FLN := ⟨_, fun_mk (st := sLN) lLN cLN kLN⟩
      gLN := PySem.W.mg_of X G aLN
      FLP := ⟨_, fun_mk (st := sLP) lLP cLP kLP⟩
      gLP := PySem.W.mg_of X G aLP
      FLC := ⟨_, fun_mk (st := sLC) lLC cLC kLC⟩
      gLC := PySem.W.mg_of X G aLC
      FLR := ⟨_, fun_mk (st := sLR) lLR cLR kLR⟩
      gLR := PySem.W.mg_of X G aLR
      FLU := ⟨_, fun_mk (st := sLU) lLU cLU kLU⟩
      gLU := PySem.W.mg_of X G aLU
      FLS := ⟨_, fun_mk (st := sLS) lLS cLS kLS⟩
      gLS := PySem.W.mg_of X G aLS
      clI := ⟨pgI, hdI, poI, saI⟩
      mkI := ⟨mkI, aII, iII, kcI⟩
      clT := ⟨pgT, hdT, poT, saT⟩
      mkT := ⟨mkT, aTI, iTI, kcT⟩
      nI_rows_of := nI_rows_of
      nI_holders := nI_holders
      nT_goes_to := nT_goes_to
      nT_pile_of := nT_pile_of
      nT_piles := nT_piles
      nT_comes_from := nT_comes_from
      nT_made := nT_made
      xN := xN
      kN := kN
      bN := bN
      tN := tN
      eM := PySem.W.exm_ref bM hM tM sM
      exN := ⟨xg, xk, bN, xd, xa, xn, xt, xm⟩
      iCW := kit_own hdCW tyCW suCW neCW
      iCL := kit_own hdCL tyCL suCL neCL
      iCR := kit_own hdCR tyCR suCR neCR
      iCP := kit_own hdCP tyCP suCP neCP
      iCO := kit_own hdCO tyCO suCO neCO
      iCN := kit_same
      iVE := kit_blt suVE
      m_sorted := PySem.W.mg_none_of X G z_sorted
      m_set := PySem.W.mg_none_of X G z_set
      m_len := PySem.W.mg_none_of X G z_len
      m_list := PySem.W.mg_none_of X G z_list
      m_range := PySem.W.mg_none_of X G z_range
      m_int := PySem.W.mg_none_of X G z_int
      m_bool := PySem.W.mg_none_of X G z_bool
      m_isinstance := PySem.W.mg_none_of X G z_isinstance
      m_ValueError := PySem.W.mg_none_of X G z_ValueError }
  have FL := fun_mk (st := sLL) lLL cLL kLL
  exact ⟨PySem.W.fnOf "law" "law" (defArgs sLL) (defBody sLL) (defScope sLL) .none kVLL dcLL pmLL anLL cdLL ctLL, fun s v => .of_eq rfl, fun base _ _ => ok_LL (a := ⟨CI, CT, CM, CN, CW, CL, CR, CP, CO, fII, fIS, fIA, fIT, fIH, fIW, fIL, fTI, fTP, fTG, fTH, fTS, fTA, fTT, fTN, fTR, fTL, fTW, fTD, fLD, fLN, fLP, fLC, fLR, fLU, fLS, fa⟩) FL T⟩
theorem walk {l : PySem.W.OpenLaw} {q : Program} {loose : List Str} {XP : (Str → Option Value) → Heap → Prop} {YP : World → Heap → Prop} {d : DefRec} {K : Params → PySem.W.Frag} (hn : l.most = some 63) (hdf : d.params.defaults = [])
    (hY : ∀ (w : World) (h : Heap), YP w h → (K w.params).In h)
    (F : ∀ (w : World) (mg : Str → Option Value) (fa : Addr) (h : Heap), (K w.params).In h → h.Ns mainGlobals mg → mg d.name = some (.ref fa) →
      ∃ fd : FuncData, (∀ (s : Shared) (u : Value), BindsTo s fd ⟨[u], []⟩ [("_law_script", u)]) ∧ ∀ base : Heap, (K w.params).In base → base.Ns mainGlobals mg → FnOk l.prog w (K w.params) mg base CX0 7 fa fd ["_law_script"] (spLaw (K w.params))) :
    PySem.W.WalkO q loose XP YP l.row.toRowW d [] (fun f vs => PySem.call f vs) :=
  L2.walk_of (n := 63) (k := 7) (x := "_law_script") (CX := fun _ => CX0) (sp := fun w => spLaw (K w.params)) hn (by decide) hdf ⟨rfl, by decide, by decide⟩ hY F (fun _ _ a ns hl _ hS => ⟨a, ns, rfl, hS, hl, fun _ => rfl⟩) fun _ _ _ _ _ z => z
end K24
open PySem PySem.W PyProof.Rows
set_option maxRecDepth 100000 in
set_option maxHeartbeats 0 in
theorem PySem.Challenge.cw_mailroom_k24_there_or_not_holds : PySem.Challenge.rw_mailroom_k24_there_or_not.Holds := by
  w_on; o_law; k_head; (case hw => w_witness2)
  k_fill
  refine K24.walk (l := PySem.Challenge.rw_mailroom_k24_there_or_not) rfl rfl (fun w h Y => PySem.W.kIn_of Y) ?F
  case F =>
    intro w mg fa h KX G hmg
    refine' K24.all_mk KX G hmg ?aCI ?aCT ?aCM ?aCN ?aCW ?aCL ?aCR ?aCP ?aCO ?aII ?iII ?lII ?cII ?kII ?aIS ?iIS ?lIS ?cIS ?kIS ?aIA ?iIA ?lIA ?cIA ?kIA ?aIT ?iIT ?lIT ?cIT ?kIT ?aIH ?iIH ?lIH ?cIH ?kIH ?aIW ?iIW ?lIW ?cIW ?kIW ?aIL ?iIL ?lIL ?cIL ?kIL ?aTI ?iTI ?lTI ?cTI ?kTI ?aTP ?iTP ?lTP ?cTP ?kTP ?aTG ?iTG ?lTG ?cTG ?kTG ?aTH ?iTH ?lTH ?cTH ?kTH ?aTS ?iTS ?lTS ?cTS ?kTS ?aTA ?iTA ?lTA ?cTA ?kTA ?lD ?aTT ?iTT ?lTT ?cTT ?kTT ?aTN ?iTN ?lTN ?cTN ?kTN ?aTR ?iTR ?lTR ?cTR ?kTR ?aTL ?iTL ?lTL ?cTL ?kTL ?aTW ?iTW ?lTW ?cTW ?kTW ?aTD ?iTD ?lTD ?cTD ?kTD ?aLD ?lLD ?cLD ?kLD ?aLN ?lLN ?cLN ?kLN ?aLP ?lLP ?cLP ?kLP ?aLC ?lLC ?cLC ?kLC ?aLR ?lLR ?cLR ?kLR ?aLU ?lLU ?cLU ?kLU ?aLS ?lLS ?cLS ?kLS ?aLL ?lLL ?cLL ?kLL ?pgI ?hdI ?poI ?saI ?mkI ?kcI ?pgT ?hdT ?poT ?saT ?mkT ?kcT ?nI_rows_of ?nI_holders ?nT_goes_to ?nT_pile_of ?nT_piles ?nT_comes_from ?nT_made ?xN ?kN ?bN ?tN ?bM ?hM ?tM ?sM ?xg ?xk ?xd ?xa ?xn ?xt ?xm ?hdCW ?tyCW ?suCW ?neCW ?hdCL ?tyCL ?suCL ?neCL ?hdCR ?tyCR ?suCR ?neCR ?hdCP ?tyCP ?suCP ?neCP ?hdCO ?tyCO ?suCO ?neCO ?suVE ?z_sorted ?z_set ?z_len ?z_list ?z_range ?z_int ?z_bool ?z_isinstance ?z_ValueError
    (case aCI => k_is)
    (case aCT => k_is)
    (case aCM => k_is)
    (case aCN => k_is)
    (case aCW => k_is)
    (case aCL => k_is)
    (case aCR => k_is)
    (case aCP => k_is)
    (case aCO => k_is)
    (case aII => k_is)
    (case iII => k_is)
    (case lII => k_is)
    (case cII => k_is)
    (case kII => k_is)
    (case aIS => k_is)
    (case iIS => k_is)
    (case lIS => k_is)
    (case cIS => k_is)
    (case kIS => k_is)
    (case aIA => k_is)
    (case iIA => k_is)
    (case lIA => k_is)
    (case cIA => k_is)
    (case kIA => k_is)
    (case aIT => k_is)
    (case iIT => k_is)
    (case lIT => k_is)
    (case cIT => k_is)
    (case kIT => k_is)
    (case aIH => k_is)
    (case iIH => k_is)
    (case lIH => k_is)
    (case cIH => k_is)
    (case kIH => k_is)
    (case aIW => k_is)
    (case iIW => k_is)
    (case lIW => k_is)
    (case cIW => k_is)
    (case kIW => k_is)
    (case aIL => k_is)
    (case iIL => k_is)
    (case lIL => k_is)
    (case cIL => k_is)
    (case kIL => k_is)
    (case aTI => k_is)
    (case iTI => k_is)
    (case lTI => k_is)
    (case cTI => k_is)
    (case kTI => k_is)
    (case aTP => k_is)
    (case iTP => k_is)
    (case lTP => k_is)
    (case cTP => k_is)
    (case kTP => k_is)
    (case aTG => k_is)
    (case iTG => k_is)
    (case lTG => k_is)
    (case cTG => k_is)
    (case kTG => k_is)
    (case aTH => k_is)
    (case iTH => k_is)
    (case lTH => k_is)
    (case cTH => k_is)
    (case kTH => k_is)
    (case aTS => k_is)
    (case iTS => k_is)
    (case lTS => k_is)
    (case cTS => k_is)
    (case kTS => k_is)
    (case aTA => k_is)
    (case iTA => k_is)
    (case lTA => k_is)
    (case cTA => k_is)
    (case kTA => k_is)
    (case lD => k_is)
    (case aTT => k_is)
    (case iTT => k_is)
    (case lTT => k_is)
    (case cTT => k_is)
    (case kTT => k_is)
    (case aTN => k_is)
    (case iTN => k_is)
    (case lTN => k_is)
    (case cTN => k_is)
    (case kTN => k_is)
    (case aTR => k_is)
    (case iTR => k_is)
    (case lTR => k_is)
    (case cTR => k_is)
    (case kTR => k_is)
    (case aTL => k_is)
    (case iTL => k_is)
    (case lTL => k_is)
    (case cTL => k_is)
    (case kTL => k_is)
    (case aTW => k_is)
    (case iTW => k_is)
    (case lTW => k_is)
    (case cTW => k_is)
    (case kTW => k_is)
    (case aTD => k_is)
    (case iTD => k_is)
    (case lTD => k_is)
    (case cTD => k_is)
    (case kTD => k_is)
    (case aLD => k_is)
    (case lLD => k_is)
    (case cLD => k_is)
    (case kLD => k_is)
    (case aLN => k_is)
    (case lLN => k_is)
    (case cLN => k_is)
    (case kLN => k_is)
    (case aLP => k_is)
    (case lLP => k_is)
    (case cLP => k_is)
    (case kLP => k_is)
    (case aLC => k_is)
    (case lLC => k_is)
    (case cLC => k_is)
    (case kLC => k_is)
    (case aLR => k_is)
    (case lLR => k_is)
    (case cLR => k_is)
    (case kLR => k_is)
    (case aLU => k_is)
    (case lLU => k_is)
    (case cLU => k_is)
    (case kLU => k_is)
    (case aLS => k_is)
    (case lLS => k_is)
    (case cLS => k_is)
    (case kLS => k_is)
    (case aLL => k_is)
    (case lLL => k_is)
    (case cLL => k_is)
    (case kLL => k_is)
    (case pgI => k_is)
    (case hdI => k_is)
    (case poI => k_is)
    (case saI => k_is)
    (case mkI => k_is)
    (case kcI => k_is)
    (case pgT => k_is)
    (case hdT => k_is)
    (case poT => k_is)
    (case saT => k_is)
    (case mkT => k_is)
    (case kcT => k_is)
    (case nI_rows_of => k_is)
    (case nI_holders => k_is)
    (case nT_goes_to => k_is)
    (case nT_pile_of => k_is)
    (case nT_piles => k_is)
    (case nT_comes_from => k_is)
    (case nT_made => k_is)
    (case xN => k_exc)
    (case kN => k_is)
    (case bN => k_is)
    (case tN => k_is)
    (case bM => k_is)
    (case hM => k_is)
    (case tM => k_is)
    (case sM => k_is)
    (case xg => k_is)
    (case xk => k_is)
    (case xd => k_is)
    (case xa => k_is)
    (case xn => k_is)
    (case xt => k_is)
    (case xm => k_is)
    (case hdCW => k_is)
    (case tyCW => k_is)
    (case suCW => k_is)
    (case neCW => decide)
    (case hdCL => k_is)
    (case tyCL => k_is)
    (case suCL => k_is)
    (case neCL => decide)
    (case hdCR => k_is)
    (case tyCR => k_is)
    (case suCR => k_is)
    (case neCR => decide)
    (case hdCP => k_is)
    (case tyCP => k_is)
    (case suCP => k_is)
    (case neCP => decide)
    (case hdCO => k_is)
    (case tyCO => k_is)
    (case suCO => k_is)
    (case neCO => decide)
    (case suVE => k_is)
    (case z_sorted => k_is)
    (case z_set => k_is)
    (case z_len => k_is)
    (case z_list => k_is)
    (case z_range => k_is)
    (case z_int => k_is)
    (case z_bool => k_is)
    (case z_isinstance => k_is)
    (case z_ValueError => k_is)
